import PyProof.Rows.All
import Wide.All
import OpenK.AllK
import Wide.FinOn
import PySem.Challenge.RW_og0152_01
open PySem PySem.W PySem.Calls PyProof.Rows
set_option Elab.async false
set_option linter.unusedVariables false
set_option maxRecDepth 100000
set_option maxHeartbeats 4000000
namespace Mine
/-- what the walk may look at: the statements that bind a name that stays -/
def seenProg : Program := { PySem.Challenge.pw_og0152_01 with main := { PySem.Challenge.pw_og0152_01.main with body := ((((PySem.Challenge.pw_og0152_01.main.body.eraseIdx 18).eraseIdx 16).eraseIdx 11).eraseIdx 3).eraseIdx 1 } }
theorem tw_made : (!(PySem.Challenge.pw_og0152_01.main.body.isEmpty)) = true := by k_qdec
local macro_rules | `(tactic| o_head $H:term) => `(tactic| (refine PySem.W.holds_open (q := seenProg) (loose := [PySem.Str.ofString "PaperError"]) (Xt := fun s => xlAt seenProg [] s && recOk (RowW.records (OpenRow.toRowW (OpenLaw.row PySem.Challenge.rw_og0152_01))) s) (XP := XL seenProg []) (Yf := Hook.obs $H) (Ya := Hook.val $H) (YP := Hook.says $H) (N := 3306) ?hl (Hook.of $H) (Hook.keeps $H) (fun s e => xl_of s (Bool.and_eq_true_iff.mp e).1) XL.keeps (by rfl) (by rfl) (by rfl) (fun s e => recFacts_of (Bool.and_eq_true_iff.mp e).2) (by rfl) (by first | assumption | decide +kernel) (by decide +kernel) ⟨rfl, rfl, rfl, rfl, rfl, by decide +kernel⟩ ?hw ?hc; (case hl => (intro w; change Option.map _ (openEnds treeTable PySem.Challenge.pw_og0152_01 w 3306) = _; unfold openEnds topFrom; rw [PySem.W.Fast.te14082659384304107361, PySem.W.Fast.te14364793385576792824, PySem.W.Fast.te4187177175401517315, PySem.W.Fast.te5923862056798008813, PySem.W.Fast.te12839548548306665156]; kernel_rfl))))
open_top hd for PySem.Challenge.rw_og0152_01
/-! part Base -/
abbrev Led := List (Addr × Obj)
def Ext (h h' : Heap) : Prop := ∀ b o, h.get? b = some o → h'.get? b = some o
theorem Ext.refl (h : Heap) : Ext h h := fun _ _ e => e
theorem Ext.trans {a b c : Heap} (x : Ext a b) (y : Ext b c) : Ext a c := fun p o e => y p o (x p o e)
theorem hideAll_ext {h : Heap} {l : List Addr} : Ext (hideAll h l) h := fun _ _ e => of_hideAll l e
theorem hideAll_none' {h : Heap} {l : List Addr} {b : Addr} (m : b ∈ l) : (hideAll h l).get? b = none := hideAll_none l m
theorem ext_hideAll {g h : Heap} {l : List Addr} (e : Ext g h) (n : ∀ a ∈ l, g.get? a = none) : Ext g (hideAll h l) := fun b o q =>
  hideAll_get l (e b o q) fun m => by rw [n b m] at q; cases q
/-- the program run by this claim -/
abbrev PW : Program := PySem.Challenge.pw_og0152_01
structure Room (n : Nat) (A : Around) : Prop where
  handled : A.handled = none
  depth : A.depth + n ≤ 900
  units : A.units + 10 * n ≤ 9000
theorem Room.deeper {n : Nat} {A : Around} {env : Env} (r : Room (n + 1) A) : Room n (A.deeper env) := ⟨r.handled, by have := r.depth; show A.depth + 1 + n ≤ 900; omega, by have := r.units; show A.units + 3 + 10 * n ≤ 9000; omega⟩
theorem Room.mono {n k : Nat} {A : Around} (r : Room n A) (h : k ≤ n) : Room k A := ⟨r.handled, by have := r.depth; omega, by have := r.units; omega⟩
theorem Room.lt {n : Nat} {A : Around} (r : Room n A) : A.depth < recursionLimit := by have := r.depth; show A.depth < 1000; omega
theorem Room.cl {n : Nat} {A : Around} (r : Room n A) : A.units < cLine := by have := r.units; rw [cLine_is]; omega
section
variable {p : Program} {loose : List Str} {w : World} {mean : ExcName → Option Value} {mg mb : Str → Option Value} {A : Around} {s : Shared}
theorem frag_keeps {K : Frag} {h h' : Heap} (X : K.In h) (e : Ext h h') : K.In h' := X.keeps e
theorem top_keeps {h h' : Heap} (T : Top p loose mean mg mb h) (e : Ext h h') : Top p loose mean mg mb h' := T.keeps e
/-- into a def: the ground is the heap less what the ledger lists -/
theorem enterN {R : Result → Shared → Prop} {name qual : Str} {params : Arguments} {body : List Stmt} {scope : Scope} {dV kV doc pm cdv ct oc : Value} {an od : Option Addr} {osl : Array (Option Value)} {f : Addr} {args : Args} {binds : List (Str × Value)}
    (nw : Led) (hn : ∀ q ∈ nw, s.heap.get? q.1 = some q.2)
    (X : (hd.heap_39 w.params).In (hideAll s.heap (nw.map (·.1)))) (T : Top p loose mean mg mb (hideAll s.heap (nw.map (·.1))))
    (ho : (hd.heap_39 w.params).lookup f = some ⟨oc, od, .func (fnOf name qual params body scope dV kV doc pm an cdv ct), osl⟩) (hcd : codeIn (hd.heap_39 w.params) cdv qual = true) (hroom : A.depth < recursionLimit)
    (hbind : BindsTo s (fnOf name qual params body scope dV kV doc pm an cdv ct) args binds) (hloc : ∀ y ∈ binds, scope.names.lookup y.1 = some .local)
    (h : ∀ g L' h₁, g = hideAll s.heap (nw.map (·.1)) → Fr g L' h₁ (fun y => binds.reverse.lookup y) → News g L' h₁ nw → (hd.heap_39 w.params).In g → Top p loose mean mg mb g → (∀ q ∈ nw, q.1 < L') →
      wpAny (model PySem.Challenge.pw_og0152_01 w) (A.deeper (envOf qual scope L' f cdv)) (execs body (envOf qual scope L' f cdv))
        (fun fl s' => R (.ok (.ret (match fl with | .ret v => v | _ => .none))) s') (fun _ _ => False)
        { s with heap := h₁, toks := s.toks + binds.length })
    (hco : scope.isCoroutine = false) (hgen : scope.isGenerator = false) (hk : scope.kind = .function)
    (hcell : ∀ x ∈ scope.names, x.2 ≠ .cell) : codeAny (model PySem.Challenge.pw_og0152_01 w) A (.call (.ref f) args) R s := by
  have XX := frag_keeps X hideAll_ext
  have TT := top_keeps T hideAll_ext
  refine codeAny_call_def (fd := fnOf name qual params body scope dV kV doc pm an cdv ct) (body := body) (binds := binds) hroom (XX _ _ ho) rfl TT.nolimit (codeRec_of XX hcd) rfl hbind hcell hloc (fun h₁ hns hk₁ => ?_) hco hgen hk
  exact wpAny_mono (h _ s.heap.objs.size h₁ rfl ⟨hns, fun b o e => hk₁ b o (of_hideAll _ e), Nat.le_of_eq (hideAll_size _ _)⟩
    (fun q hq => ⟨hk₁ _ _ (hn q hq), Nat.ne_of_lt (Heap.lt_size (hn q hq)), hideAll_none _ (List.mem_map_of_mem hq)⟩) X T (fun q hq => Heap.lt_size (hn q hq))) (fun _ _ x => x) (fun _ _ x => x.elim)
theorem enter {R : Result → Shared → Prop} {name qual : Str} {params : Arguments} {body : List Stmt} {scope : Scope} {dV kV doc pm cdv ct oc : Value} {an od : Option Addr} {osl : Array (Option Value)} {f : Addr} {args : Args} {binds : List (Str × Value)}
    (X : (hd.heap_39 w.params).In s.heap) (T : Top p loose mean mg mb s.heap)
    (ho : (hd.heap_39 w.params).lookup f = some ⟨oc, od, .func (fnOf name qual params body scope dV kV doc pm an cdv ct), osl⟩) (hcd : codeIn (hd.heap_39 w.params) cdv qual = true) (hroom : A.depth < recursionLimit)
    (hbind : BindsTo s (fnOf name qual params body scope dV kV doc pm an cdv ct) args binds) (hloc : ∀ y ∈ binds, scope.names.lookup y.1 = some .local)
    (h : ∀ L' h₁, Fr s.heap L' h₁ (fun y => binds.reverse.lookup y) → News s.heap L' h₁ [] → (hd.heap_39 w.params).In s.heap → Top p loose mean mg mb s.heap →
      wpAny (model PySem.Challenge.pw_og0152_01 w) (A.deeper (envOf qual scope L' f cdv)) (execs body (envOf qual scope L' f cdv))
        (fun fl s' => R (.ok (.ret (match fl with | .ret v => v | _ => .none))) s') (fun _ _ => False)
        { s with heap := h₁, toks := s.toks + binds.length })
    (hco : scope.isCoroutine = false) (hgen : scope.isGenerator = false) (hk : scope.kind = .function)
    (hcell : ∀ x ∈ scope.names, x.2 ≠ .cell) : codeAny (model PySem.Challenge.pw_og0152_01 w) A (.call (.ref f) args) R s :=
  enterN [] (fun _ h => nomatch h) X T ho hcd hroom hbind hloc (fun g L' h₁ e F N X T _ => by subst e; exact h L' h₁ F N X T) hco hgen hk hcell
/-- a thing of an own class is made: two new objects, then __init__ -/
theorem make_new {K : Frag} {C : Addr} {R : Result → Shared → Prop} {rest : List Value} {kw : List (Str × Value)} {fI : Addr} (X : K.In s.heap) (hm : makesIn K C = true)
    (hi : findIn K (.ref C) "__init__" = some (some (.ref fI))) (hf : isFn K (.ref fI) = true)
    (h : ∀ x dx h', Ext s.heap h' → s.heap.get? x = none → s.heap.get? dx = none → h'.get? x = some (instObj C dx) → h'.get? dx = some (dictOf [] 0) → dx < x →
      codeAny (model PySem.Challenge.pw_og0152_01 w) (A.under (.builtin "type.__call__" ⟨.ref C :: rest, kw⟩)) (.call (.ref fI) ⟨.ref x :: rest, kw⟩) (InitBack x R) { s with heap := h' }) :
    codeAny (model PySem.Challenge.pw_og0152_01 w) A (.call (.ref C) ⟨rest, kw⟩) R s := by
  obtain ⟨hh, g, d, t, os⟩ := s
  have fresh : ∀ a, hh.objs.size ≤ a → hh.get? a = none := fun a ha => by
    cases e : hh.get? a with
    | none => rfl
    | some o' => exact absurd (Heap.lt_size e) (Nat.not_lt.mpr ha)
  have top : ((hh.push emptyDict).push (instObj C hh.objs.size)).get? (hh.objs.size + 1) = some (instObj C hh.objs.size) := by heap_get
  refine make_core (makes_of X hm) (looks_findIn X hi) (fun self => bind_fn X self (beq_iff_eq.mp hf)) (.inl rfl) (h _ hh.objs.size _ (fun b o e => Heap.get?_push_of_some _ (Heap.get?_push_of_some _ e)) (fresh _ (Nat.le_succ _)) (fresh _ (Nat.le_refl _)) top (Heap.get?_push_of_some _ (Heap.get?_push_size _ rfl)) (Nat.lt_succ_self _))
end
/-- what a call has made: it stands behind it and stood not before it -/
def NewIn (h h' : Heap) (tl : Led) : Prop := ∀ q ∈ tl, h'.get? q.1 = some q.2 ∧ h.get? q.1 = none
theorem NewIn.nil {h h' : Heap} : NewIn h h' [] := fun _ m => nomatch m
theorem news_more {h₀ h h' : Heap} {L : Addr} {m : Str → Option Value} {nw tl : Led} (F : Fr h₀ L h m) (N : News h₀ L h nw) (e : Ext h h') (n : NewIn h h' tl) : Fr h₀ L h' m ∧ News h₀ L h' (tl ++ nw) := by
  obtain ⟨oL, es, ep, hL, r⟩ := F.ns
  refine ⟨⟨⟨oL, es, ep, e _ _ hL, r⟩, fun b o q => e b o (F.keep b o q), F.above⟩, fun q hq => ?_⟩
  rcases List.mem_append.mp hq with hq | hq
  · have := n q hq
    refine ⟨this.1, fun z => ?_, ?_⟩
    · rw [z, hL] at this; cases this.2
    · cases z : h₀.get? q.1 with
      | none => rfl
      | some o => rw [F.keep _ _ z] at this; cases this.2
  · exact ⟨e _ _ (N q hq).1, (N q hq).2⟩
theorem inst_of_base {h₀ h : Heap} {L x C dx : Addr} {m : Str → Option Value} {od : Obj} {sl : Array (Option Value)} (F : Fr h₀ L h m) (h1 : h₀.get? x = some (⟨.ref C, some dx, .plain, sl⟩ : Obj)) (h2 : h₀.get? dx = some od) :
    W.InstAt h x ⟨.ref C, some dx, .plain, sl⟩ C (some od) := ⟨F.keep _ _ h1, rfl, rfl, F.keep _ _ h2⟩
local macro_rules | `(tactic| k_inst) => `(tactic| (refine' inst_of_base ?F ?h1 ?h2; (case F => k_asm); (case h1 => assumption); (case h2 => assumption)))
local macro_rules | `(tactic| walk_at "m_in") => `(tactic| ((case k6 => k_is); (case k7 => k_is); (case k9 => exact BindsTo.of_eq rfl); (case c5 => decide); (case kB => exact locs rfl); (case c2 => exact rfl); (case c3 => exact rfl); (case c4 => exact rfl)))
local macro_rules | `(tactic| walk_at "m_pure") => `(tactic| ((case k1 => assumption); (case k2 => assumption); (case k8 => exact Room.lt (by assumption)); intro L' h' F' N' X' T'; (try dsimp only); (try k_fold); w_on))
local macro_rules | `(tactic| walk_at "m_room") => `(tactic| (first | exact Room.deeper (by assumption) | exact Room.mono (Room.deeper (by assumption)) (by decide) | exact Room.mono (by assumption) (by decide)))
local macro_rules | `(tactic| walk_at "m_top") => `(tactic| exact top_keeps (by assumption) (Fr.keep (by k_asm)))
/-! part D1 -/
def HH (h : Heap) (a : Addr) (o : Obj) : Prop := h.get? a = some o
def ML (tl : Led) (a : Addr) (o : Obj) : Prop := (a, o) ∈ tl
def dtop (t : Int) : Int := if t % 10 = 0 then t / 10 else t
def dpl (t : Int) : Int := if t % 10 = 0 then 0 else 1
abbrev decD (P : Params) (a b : Int) (t1 t2 t3 t4 : Tok) : Obj :=
  dictOf [⟨PyData.keyHash P (Str.ofString "top"), .str (Str.ofString "top") t1, .int a t2⟩, ⟨PyData.keyHash P (Str.ofString "places"), .str (Str.ofString "places") t3, .int b t4⟩] 2
def DecBy (P : Params) (has : Addr → Obj → Prop) (v : Value) (t : Int) : Prop :=
  ∃ x d t1 t2 t3 t4, v = .ref x ∧ has x (instObj 143 d) ∧ has d (decD P (dtop t) (dpl t) t1 t2 t3 t4)
theorem DecBy.mono {P : Params} {has has' : Addr → Obj → Prop} {v : Value} {t : Int} (k : ∀ a o, has a o → has' a o) (h : DecBy P has v t) : DecBy P has' v t :=
  let ⟨x, d, t1, t2, t3, t4, e, a, b⟩ := h; ⟨x, d, t1, t2, t3, t4, e, k _ _ a, k _ _ b⟩
local macro_rules | `(tactic| walk_at "exec While BoolOp") => `(tactic| (k_here; k_dflt (refine whl_start 100 ?_)))
section
variable {p : Program} {loose : List Str} {w : World} {mean : ExcName → Option Value} {mg mb : Str → Option Value} {A : Around} {s : Shared} {Q E : Value → Shared → Prop}
theorem init_spec {R : Result → Shared → Prop} (hA : A.depth < recursionLimit) {x d : Addr} {a b t : Int} {ta tp : Tok} (hx : s.heap.get? x = some (instObj 143 d)) (hdd : s.heap.get? d = some (dictOf [] 0)) (l : d < x)
   (X : (hd.heap_39 w.params).In (hideAll s.heap [x, d])) (T : Top p loose mean mg mb (hideAll s.heap [x, d])) (hp : (b = 1 ∧ a = t) ∨ (b = 0 ∧ 10 * a = t))
   (ret : ∀ h' tk t1 t2 t3 t4, Ext (hideAll s.heap [x, d]) h' → h'.get? x = some (instObj 143 d) → h'.get? d = some (decD w.params (dtop t) (dpl t) t1 t2 t3 t4) → R (.ok (.ret .none)) { s with heap := h', toks := tk }) :
   codeAny (model PySem.Challenge.pw_og0152_01 w) A (.call (.ref 63) ⟨[.ref x, .int a ta, .int b tp], []⟩) R s := by
  have k0 : ∀ q ∈ ([(x, instObj 143 d), (d, dictOf [] 0)] : Led), s.heap.get? q.1 = some q.2 := by
    intro q hq
    rcases List.mem_cons.mp hq with rfl | hq
    · exact hx
    · rw [List.mem_singleton.mp hq]; exact hdd
  have fin : ∀ (g h' : Heap) (a' b' : Int) (tk : Nat) (L' : Addr) (m : Str → Option Value) (t1 t2 t3 t4 : Tok), g = hideAll s.heap [x, d] → Fr g L' h' m → News g L' h' [(x, instObj 143 d), (d, decD w.params a' b' t1 t2 t3 t4)] → a' = dtop t → b' = dpl t → R (.ok (.ret .none)) { s with heap := h', toks := tk } := by
    rintro g h' a' b' tk L' m t1 t2 t3 t4 rfl F N rfl rfl
    exact ret h' tk t1 t2 t3 t4 F.keep (N _ (.head _)).1 (N _ (.tail _ (.head _))).1
  rcases hp with ⟨rfl, rfl⟩ | ⟨rfl, rfl⟩
  · k_dflt (refine' enterN (binds := [(Str.ofString "self", .ref x), (Str.ofString "top", .int a ta), (Str.ofString "places", .int 1 tp)]) [(x, instObj 143 d), (d, dictOf [] 0)] ?k0 ?k1 ?k2 ?k6 ?k7 ?k8 ?k9 ?kB ?_ ?c2 ?c3 ?c4 ?c5; walk_at "m_in")
    case k0 => exact k0
    case k1 => exact X
    case k2 => exact T
    case k8 => exact hA
    intro g L' h' hg F' N' X' T' ol
    clear ol
    replace l := ltN l
    try dsimp only
    try k_fold
    w_on
    k_steps
    · rename (Int.fmod _ _ = 0) => e
      rw [Int.fmod_eq_emod_of_nonneg _ (by decide)] at e
      exact fin _ _ _ _ _ _ _ _ _ _ _ hg (by assumption) (by assumption) (by unfold dtop; rw [if_pos e, Int.fdiv_eq_ediv_of_nonneg _ (by decide)]) (by unfold dpl; rw [if_pos e]; rfl)
    · rename (Int.fmod _ _ ≠ 0) => e
      rw [Int.fmod_eq_emod_of_nonneg _ (by decide)] at e
      exact fin _ _ _ _ _ _ _ _ _ _ _ hg (by assumption) (by assumption) (by unfold dtop; rw [if_neg e]) (by unfold dpl; rw [if_neg e])
  · k_dflt (refine' enterN (binds := [(Str.ofString "self", .ref x), (Str.ofString "top", .int a ta), (Str.ofString "places", .int 0 tp)]) [(x, instObj 143 d), (d, dictOf [] 0)] ?k0 ?k1 ?k2 ?k6 ?k7 ?k8 ?k9 ?kB ?_ ?c2 ?c3 ?c4 ?c5; walk_at "m_in")
    case k0 => exact k0
    case k1 => exact X
    case k2 => exact T
    case k8 => exact hA
    intro g L' h' hg F' N' X' T' ol
    clear ol
    replace l := ltN l
    try dsimp only
    try k_fold
    w_on
    k_steps
    have e : (10 * a) % 10 = 0 := by omega
    exact fin _ _ _ _ _ _ _ _ _ _ _ hg (by assumption) (by assumption) (by unfold dtop; rw [if_pos e]; omega) (by unfold dpl; rw [if_pos e])
theorem dec_new (hA : Room 2 A) {a b : Int} {ta tp : Tok} (X : (hd.heap_39 w.params).In s.heap) (T : Top p loose mean mg mb s.heap) (hb : b = 0 ∨ b = 1)
   (ret : ∀ h' tk tl r, Ext s.heap h' → NewIn s.heap h' tl → DecBy w.params (ML tl) r (if b = 0 then 10 * a else a) → Q r { s with heap := h', toks := tk }) :
   wpAny (model PySem.Challenge.pw_og0152_01 w) A (call (.ref 143) [.int a ta, .int b tp]) Q E s := by
  have hp : (b = 1 ∧ a = (if b = 0 then 10 * a else a)) ∨ (b = 0 ∧ 10 * a = (if b = 0 then 10 * a else a)) := by rcases hb with rfl | rfl <;> simp
  generalize (if b = 0 then 10 * a else a) = t at ret hp
  refine wpAny_call (make_new X (by k_is) (by k_is) (by k_is) fun x d h' e nx nd hx hdd l => ?_)
  have eg : Ext s.heap (hideAll h' [x, d]) := ext_hideAll e fun a ha => by
    rcases List.mem_cons.mp ha with rfl | ha
    · exact nx
    · rw [List.mem_singleton.mp ha]; exact nd
  refine init_spec (s := { s with heap := h' }) (by rw [depth_under_make]; have := hA.depth; show A.depth + 1 < 1000; omega) hx hdd l (frag_keeps X eg) (top_keeps T eg) hp fun h₂ tk t1 t2 t3 t4 e2 hx2 hd2 => ⟨rfl, ?_⟩
  refine ret h₂ tk [(x, instObj 143 d), (d, decD w.params (dtop t) (dpl t) t1 t2 t3 t4)] (.ref x) (eg.trans e2) ?_ ⟨x, d, t1, t2, t3, t4, rfl, .head _, .tail _ (.head _)⟩
  intro q hq
  rcases List.mem_cons.mp hq with rfl | hq
  · exact ⟨hx2, nx⟩
  · rw [List.mem_singleton.mp hq]; exact ⟨hd2, nd⟩
end
/-! part Loops -/
def Stop (P : Prop) : Prop := P
theorem Stop.mk {P : Prop} (h : P) : Stop P := h
theorem stop_of {P : Prop} (h : Stop P) : P := h
/-- what is iterated: how it starts, how its iterator walks -/
structure Iter (w : World) (A : Around) (s : Shared) (v : Value) (src : List Addr) (n : Nat) (P : Nat → Value → Prop) (St : Addr → Nat → Heap → Prop) : Prop where
  start : ∀ (Q : Value → Shared → Prop) (E : Value → Shared → Prop), (∀ oI : Obj, oI.isFreed = false → St s.heap.objs.size 0 (s.heap.push oI) → Q (.ref s.heap.objs.size) { s with heap := s.heap.push oI }) → wpAny (model PySem.Challenge.pw_og0152_01 w) A (pyIter v) Q E s
  walks : ∀ I, I ∉ src → Walks PySem.Challenge.pw_og0152_01 w A I (I :: src) [I] n P (St I)
  live : ∀ I i h, St I i h → ∃ o, h.get? I = some o
  quiet : ∀ I i (s : Shared) t u (Q : Unit → Shared → Prop) (E : Value → Shared → Prop), St I i s.heap → Q () s → wpAny (model PySem.Challenge.pw_og0152_01 w) A (letOwnedTupleGo t (.ref I) u) Q E s
  below : ∀ b ∈ src, b < s.heap.objs.size
theorem quiet_of {w : World} {A : Around} {s : Shared} {I : Addr} {o : Obj} {c : String} {t : Expr} {u : Value} {Q : Unit → Shared → Prop} {E : Value → Shared → Prop} (ho : s.heap.get? I = some o) (hc : o.cls = .type c)
    (hn : ["enumerate", "zip", "dict_itemiterator", "dict_reverseitemiterator", "odict_iterator", "itertools.zip_longest", "itertools.pairwise"].contains c = false) (h : Q () s) :
    wpAny (model PySem.Challenge.pw_og0152_01 w) A (letOwnedTupleGo t (.ref I) u) Q E s := by
  unfold letOwnedTupleGo
  obtain ⟨oc, od, dt, sl⟩ := o
  dsimp only at hc
  subst hc
  have body : wpAny (model PySem.Challenge.pw_og0152_01 w) A (match u with
      | .ref a => (do
        let o ← load I
        match o.cls, o.data with
        | .type n, .fields vs =>
          if ["enumerate", "zip", "dict_itemiterator", "dict_reverseitemiterator", "odict_iterator", "itertools.zip_longest", "itertools.pairwise"].contains n && vs[0]? == some (rawInt a) then
            rule "for.unpacks-the-owned-tuple"
            updateField I 0 .none
        | _, _ => pure () : Sem Unit)
      | _ => pure ()) Q E s := by
    cases u <;> first | exact wpAny_pure h | skip
    refine wpAny_bind (wpAny_load ho ?_)
    dsimp only
    cases dt <;> first | exact wpAny_pure h | skip
    simp only [hn, Bool.false_and, Bool.false_eq_true, if_false]
    exact wpAny_pure h
  cases t <;> first | exact wpAny_pure h | (cases u <;> exact body)
section
variable {w : World} {A : Around} {s : Shared}
theorem Iter.list {l : Addr} {items : Array Value} (hh : A.handled = none) (hl : s.heap.IsList l items) :
    Iter w A s (.ref l) [l] items.size (fun i v => items[i]? = some v) (fun I i h => h.IsListIter I l i ∧ h.IsList l items) where
  start := fun Q E h => wpAny_pyIter_list hl (h _ rfl ⟨⟨_, Heap.get?_push_size _ rfl, rfl, rfl⟩, hl.at fun o e => Heap.get?_push_of_some _ e⟩)
  walks := fun I hI => Walks.list hh I l (fun e => hI (by rw [e]; exact .head _)) items
  live := fun I i h st => let ⟨o, ho, _⟩ := st.1; ⟨o, ho⟩
  quiet := fun I i s t u Q E st h => let ⟨o, ho, hc, _⟩ := st.1; quiet_of ho hc (by decide +kernel) h
  below := fun b hb => by rw [List.mem_singleton.mp hb]; obtain ⟨o, ho, _⟩ := hl; exact Heap.lt_size ho
theorem Iter.tuple {l : Addr} {items : Array Value} (hh : A.handled = none) (hl : s.heap.IsTuple l items) :
    Iter w A s (.ref l) [l] items.size (fun i v => items[i]? = some v) (fun I i h => h.IsTupleIter I l i ∧ h.IsTuple l items) where
  start := fun Q E h => wpAny_pyIter_tuple hl (h _ rfl ⟨⟨_, Heap.get?_push_size _ rfl, rfl, rfl⟩, hl.at fun o e => Heap.get?_push_of_some _ e⟩)
  walks := fun I hI => Walks.tuple hh I l (fun e => hI (by rw [e]; exact .head _)) items
  live := fun I i h st => let ⟨o, ho, _⟩ := st.1; ⟨o, ho⟩
  quiet := fun I i s t u Q E st h => let ⟨o, ho, hc, _⟩ := st.1; quiet_of ho hc (by decide +kernel) h
  below := fun b hb => by rw [List.mem_singleton.mp hb]; obtain ⟨o, ho, _⟩ := hl; exact Heap.lt_size ho
theorem Iter.range {r : Addr} {b : Int} {t u v : Tok} {n : Nat} (hh : A.handled = none) (hr : IsRange s.heap r 0 b 1 t u v) (hb : b = (n : Int)) (hs : Builtin.Range.small 0 b 1 = true) :
    Iter w A s (.ref r) [] n (fun i v => ∃ t, v = .int (i : Int) t) (fun I i h => IsRangeIter h I (0 + (i : Nat) * 1) ((n : Int) - (i : Nat)) 1) where
  start := fun Q E h => wpAny_pyIter_range hr hs (h _ rfl (by
    have e : Builtin.Range.rangeSize 0 b 1 = (n : Int) := by subst hb; unfold Builtin.Range.rangeSize; simp; omega
    rw [e]
    have := Heap.get?_push_size (o := { cls := .type "range_iterator", data := .fields #[rawInt 0, rawInt (n : Int), rawInt 1] }) s.heap rfl
    simpa [IsRangeIter] using this))
  walks := fun I hI => by
    have := Walks.range (prog := PySem.Challenge.pw_og0152_01) (w := w) hh I 0 1 n
    simpa using this
  live := fun I i h st => ⟨_, st⟩
  quiet := fun I i s t u Q E st h => quiet_of st rfl (by decide +kernel) h
  below := fun b hb => nomatch hb
/-- the end of a loop's turn -/
def TurnEnd (h₀ : Heap) (L I : Addr) (oI : Obj) (J : (Str → Option Value) → Led → Prop) (s₁ : Shared) (f : Flow) (s₃ : Shared) : Prop :=
  (f = .next ∨ f = .cont) ∧ ∃ h' tk m' nw', s₃ = { s₁ with heap := h', toks := tk } ∧ Fr h₀ L h' m' ∧ News h₀ L h' ((I, oI) :: nw') ∧ (∀ q ∈ nw', q.1 ≠ I) ∧ J m' nw'
theorem TurnEnd.mk' {h₀ h' : Heap} {L I : Addr} {oI : Obj} {J : (Str → Option Value) → Led → Prop} {s₁ : Shared} {m' : Str → Option Value} {nw' : Led} {tk : Nat} (F : Fr h₀ L h' m') (N : News h₀ L h' ((I, oI) :: nw')) (d : ∀ q ∈ nw', q.1 ≠ I) (j : J m' nw') :
    TurnEnd h₀ L I oI J s₁ .next { s₁ with heap := h', toks := tk } := ⟨.inl rfl, h', tk, m', nw', rfl, F, N, d, j⟩
theorem for_rule {h₀ : Heap} {m : Str → Option Value} {nw : Led} {env : Env} {target : Expr} {body : List Stmt} {v : Value} {src : List Addr} {n : Nat} {P : Nat → Value → Prop} {St : Addr → Nat → Heap → Prop} {Q : Flow → Shared → Prop} {E : Value → Shared → Prop}
    (J : Nat → (Str → Option Value) → Led → Prop)
    (it : Iter w A s v src n P St) (F : Fr h₀ env.locals s.heap m) (N : News h₀ env.locals s.heap nw)
    (hsrc : ∀ b ∈ src, (∃ o, h₀.get? b = some o) ∨ ∃ o, ∀ i m nw, J i m nw → (b, o) ∈ nw)
    (h0 : J 0 m nw)
    (turn : ∀ i u m₁ nw₁ I oI s₁, i < n → P i u → J i m₁ nw₁ → Fr h₀ env.locals s₁.heap m₁ → News h₀ env.locals s₁.heap ((I, oI) :: nw₁) → (∀ q ∈ nw₁, q.1 ≠ I) →
      wpAny (model PySem.Challenge.pw_og0152_01 w) A (assign target env u) (fun _ s₂ => wpAny (model PySem.Challenge.pw_og0152_01 w) A (execs body env) (TurnEnd h₀ env.locals I oI (J (i + 1)) s₁) (fun _ _ => False) s₂) (fun _ _ => False) s₁)
    (done : ∀ m' nw' h' tk, J n m' nw' → Fr h₀ env.locals h' m' → News h₀ env.locals h' nw' → Q .next { s with heap := h', toks := tk })
    (ht : ∀ it v, letOwnedTupleGo target it v = pure () := by intro _ _; rfl) :
    wpAny (model PySem.Challenge.pw_og0152_01 w) A (pyIter v) (fun it s₂ => codeAny (model PySem.Challenge.pw_og0152_01 w) A (.forLoop target it body [] env) (fun r s' => match r with | .ok f => Q f s' | .error e => cameBackBy (model PySem.Challenge.pw_og0152_01 w) A env E e s') s₂) E s := by
  refine it.start _ _ fun oI hfree hst => ?_
  have hIs : s.heap.get? s.heap.objs.size = none := by
    cases e : s.heap.get? s.heap.objs.size with
    | none => rfl
    | some o => exact absurd (Heap.lt_size e) (Nat.lt_irrefl _)
  generalize hI : s.heap.objs.size = I at *
  have hIsrc : I ∉ src := fun h => by have := it.below I h; rw [hI] at this; exact Nat.lt_irrefl _ this
  have W := it.walks I hIsrc
  have hIL : I ≠ env.locals := by
    obtain ⟨o, _, _, ho, _⟩ := F.ns
    rintro e
    rw [← e, hIs] at ho; cases ho
  have hI0 : h₀.get? I = none := by
    cases e : h₀.get? I with
    | none => rfl
    | some o => rw [F.keep _ _ e] at hIs; cases hIs
  have hnI : ∀ q ∈ nw, q.1 ≠ I := fun q hq e => by have := (N q hq).1; rw [e, hIs] at this; cases this
  have hsL : ∀ b ∈ src, b ≠ env.locals := fun b hb => by
    rcases hsrc b hb with ⟨o, ho⟩ | ⟨o, ho⟩
    · exact Nat.ne_of_lt (Nat.lt_of_lt_of_le (Heap.lt_size ho) F.above)
    · exact (N _ (ho _ _ _ h0)).2.1
  refine codeAny_forLoop (fun k s' => ∃ i m₁ nw₁ h' tk, s' = { s with heap := h', toks := tk } ∧ Fr h₀ env.locals h' m₁ ∧ News h₀ env.locals h' nw₁ ∧ (∀ q ∈ nw₁, q.1 ≠ I) ∧ J i m₁ nw₁ ∧ St I i h' ∧ i ≤ n ∧ k = n + 1 - i) ?_ (n + 1)
    ⟨0, m, nw, _, s.toks, rfl, F.push _, (fun q hq => ⟨Heap.get?_push_of_some _ (N q hq).1, (N q hq).2⟩), hnI, h0, hst, Nat.zero_le _, rfl⟩ (ht _)
  rintro k s' ⟨i, m₁, nw₁, h', tk, rfl, F₁, N₁, hd₁, hJ, hst₁, hi, rfl⟩
  by_cases hlt : i < n
  · refine W.item i _ _ _ hlt hst₁ fun u h₂ tk₂ hP hst₂ hk₂ => ?_
    have hk₂' : ∀ b o, b ≠ I → h'.get? b = some o → h₂.get? b = some o := fun b o hb e => hk₂ b o (by simpa using hb) e
    have F₂ : Fr h₀ env.locals h₂ m₁ := ⟨F₁.ns.at' fun o e => hk₂' _ o (Ne.symm hIL) e, fun b o e => hk₂' b o (by rintro rfl; rw [hI0] at e; cases e) (F₁.keep b o e), F₁.above⟩
    obtain ⟨oI₂, hoI⟩ := it.live I (i + 1) h₂ hst₂
    have N₂ : News h₀ env.locals h₂ ((I, oI₂) :: nw₁) := fun q hq => by
      rcases List.mem_cons.mp hq with rfl | hq
      · exact ⟨hoI, hIL, hI0⟩
      · exact ⟨hk₂' _ _ (hd₁ q hq) (N₁ q hq).1, (N₁ q hq).2⟩
    refine wpAny_mono (turn i u m₁ nw₁ I oI₂ { s with heap := h₂, toks := tk₂ } hlt hP hJ F₂ N₂ hd₁) (fun _ s₂ h₃ => wpAny_mono h₃ (fun f s₃ h₄ => ?_) fun _ _ f => f.elim) fun _ _ f => f.elim
    obtain ⟨hf, h₅, tk₅, m₅, nw₅, rfl, F₅, N₅, hd₅, hJ₅⟩ := h₄
    have go : ∃ m, m < n + 1 - i ∧ ∃ i m₁ nw₁ h' tk, ({ s with heap := h₅, toks := tk₅ } : Shared) = { s with heap := h', toks := tk } ∧ Fr h₀ env.locals h' m₁ ∧ News h₀ env.locals h' nw₁ ∧ (∀ q ∈ nw₁, q.1 ≠ I) ∧ J i m₁ nw₁ ∧ St I i h' ∧ i ≤ n ∧ m = n + 1 - i := by
      refine ⟨n + 1 - (i + 1), by omega, i + 1, m₅, nw₅, h₅, tk₅, rfl, F₅, (fun q hq => N₅ q (.tail _ hq)), hd₅, hJ₅, ?_, hlt, rfl⟩
      refine W.frame _ _ _ hst₂ fun b hb o e => ?_
      rcases List.mem_cons.mp hb with rfl | hb
      · rw [hoI] at e; cases e; exact (N₅ _ (.head _)).1
      · rcases hsrc b hb with ⟨o', ho⟩ | ⟨o', ho⟩
        · rw [F₂.keep _ _ ho] at e; cases e; exact F₅.keep _ _ ho
        · have e1 := (N₂ _ (.tail _ (ho _ _ _ hJ))).1
          rw [e1] at e; cases e
          exact (N₅ _ (.tail _ (ho _ _ _ hJ₅))).1
    rcases hf with rfl | rfl <;> exact go
  · have hin : i = n := by omega
    subst hin
    refine W.done _ _ _ hst₁ fun h₂ tk₂ hk₂ => wpAny_execs_nil ?_
    have hk₂' : ∀ b o, b ≠ I → h'.get? b = some o → h₂.get? b = some o := fun b o hb e => hk₂ b o (by simpa using hb) e
    exact done m₁ nw₁ h₂ tk₂ hJ ⟨F₁.ns.at' fun o e => hk₂' _ o (Ne.symm hIL) e, fun b o e => hk₂' b o (by rintro rfl; rw [hI0] at e; cases e) (F₁.keep b o e), F₁.above⟩ fun q hq => ⟨hk₂' _ _ (hd₁ q hq) (N₁ q hq).1, (N₁ q hq).2⟩
theorem for_start {env : Env} {target iter : Expr} {body : List Stmt} {pos : Pos} {Q : Flow → Shared → Prop} {E : Value → Shared → Prop}
    (h : wpAny (model PySem.Challenge.pw_og0152_01 w) A (eval iter env) (fun v s₁ => Stop (wpAny (model PySem.Challenge.pw_og0152_01 w) A (pyIter v) (fun it s₂ => codeAny (model PySem.Challenge.pw_og0152_01 w) A (.forLoop target it body [] env) (fun r s' => match r with | .ok f => Q f s' | .error e => cameBackBy (model PySem.Challenge.pw_og0152_01 w) A env E e s') s₂) E s₁)) E s)
    (hs : ∀ x, foldedSetIterable iter env x = pure x := by intro _; rfl) :
    wpAny (model PySem.Challenge.pw_og0152_01 w) A (exec (.For target iter body [] pos) env) Q E s := wpAny_For h hs
end
/-! part Comps -/
/-- an object that is a namespace with these names -/
def NsO (o : Obj) (m : Str → Option Value) : Prop := ∃ es ep, o.data = .dict es ep ∧ StrKeys es ∧ ∀ name, nsFind es name = m name
theorem NsO.of {h : Heap} {C : Addr} {m : Str → Option Value} (n : h.Ns C m) : ∃ o, h.get? C = some o ∧ NsO o m := let ⟨o, es, ep, ho, r⟩ := n; ⟨o, ho, es, ep, r⟩
theorem NsO.ns {h : Heap} {C : Addr} {o : Obj} {m : Str → Option Value} (ho : h.get? C = some o) (n : NsO o m) : h.Ns C m := let ⟨es, ep, r⟩ := n; ⟨o, es, ep, ho, r⟩
/-- the ledger's entries lie off the block's own three objects -/
def Off (C D I : Addr) (nw : Led) : Prop := ∀ q ∈ nw, q.1 ≠ C ∧ q.1 ≠ D ∧ q.1 ≠ I
section
variable {w : World} {A : Around} {s : Shared}
theorem gen_turn {e : Expr} {k : Nat} {target iter : Expr} {ifs : List Expr} {elt : Expr} {gens : List Comprehension} {scope : Scope} {pos : Pos} (he : e = .ListComp elt gens scope pos) (hg : gens[k]? = some ⟨target, iter, ifs, 0⟩) (hl : gens[k + 1]? = none) (it acc : Value) (env : Env) :
    compTurn e k it acc env = (do
      standAt iter.pos
      match ← pyNext it with
      | none => pure (.done .next)
      | some v =>
        letOwnedTupleGo target it v
        assign target env v
        let mut ok := true
        for c in ifs do
          if ok then ok ← isTrue c env (eval c env)
        if ok then
          (do let _ ← call (.builtin "list.append") [acc, ← eval elt env])
        again (.compLoop e k it acc env)) := by
  subst he
  unfold compTurn
  simp only [hg, hl]
  rfl
theorem gen_turn2 {e : Expr} {k : Nat} {target iter target' iter' : Expr} {ifs' : List Expr} {elt : Expr} {gens : List Comprehension} {scope : Scope} {pos : Pos} (he : e = .ListComp elt gens scope pos) (hg : gens[k]? = some ⟨target, iter, [], 0⟩) (hl : gens[k + 1]? = some ⟨target', iter', ifs', 0⟩) (it acc : Value) (env : Env) :
    compTurn e k it acc env = (do
      standAt iter.pos
      match ← pyNext it with
      | none => pure (.done .next)
      | some v =>
        letOwnedTupleGo target it v
        assign target env v
        let x ← eval iter' env
        standAt iter'.pos
        let x ← foldedSetIterable iter' env x
        let _ ← runOwn (.compStart e (k + 1) (← holding [x] (pyIter x)) acc env) env
        again (.compLoop e k it acc env)) := by
  subst he
  unfold compTurn
  simp only [hg, hl]
  rfl
/-- the end of an element: what stands, what was added -/
def EltEnd (h₀ : Heap) (L : Addr) (m : Str → Option Value) (C D I : Addr) (oD oI : Obj) (J : Led → Prop) (s₁ s₄ : Shared) : Prop :=
  ∃ h' tk nw' oC' mC', s₄ = { s₁ with heap := h', toks := tk } ∧ Fr h₀ L h' m ∧ News h₀ L h' ((C, oC') :: (D, oD) :: (I, oI) :: nw') ∧ NsO oC' mC' ∧ Off C D I nw' ∧ J nw'
theorem EltEnd.mk' {h₀ h' : Heap} {L : Addr} {m : Str → Option Value} {C D I : Addr} {oD oI oC' : Obj} {mC' : Str → Option Value} {J : Led → Prop} {s₁ : Shared} {tk : Nat} {nw' : Led} (F : Fr h₀ L h' m) (N : News h₀ L h' ((C, oC') :: (D, oD) :: (I, oI) :: nw')) (n : NsO oC' mC') (o : Off C D I nw') (j : J nw') :
    EltEnd h₀ L m C D I oD oI J s₁ { s₁ with heap := h', toks := tk } := ⟨h', tk, nw', oC', mC', rfl, F, N, n, o, j⟩
def tests (ifs : List Expr) (env : Env) : Sem Bool := forIn ifs true fun c r => if r = true then do let ok ← isTrue c env (eval c env); pure (ForInStep.yield ok) else pure (ForInStep.yield r)
theorem tests_nil {env : Env} {Q : Bool → Shared → Prop} {E : Value → Shared → Prop} (h : Q true s) : wpAny (model PySem.Challenge.pw_og0152_01 w) A (tests [] env) Q E s := wpAny_tests_nil h
theorem tests_one {env : Env} {c : Expr} {Q : Bool → Shared → Prop} {E : Value → Shared → Prop} (h : wpAny (model PySem.Challenge.pw_og0152_01 w) A (isTrue c env (eval c env)) Q E s) : wpAny (model PySem.Challenge.pw_og0152_01 w) A (tests [c] env) Q E s := wpAny_tests_one h
/-- one level of a comprehension, its innermost -/
theorem comp_core {e : Expr} {k : Nat} {target iter : Expr} {ifs : List Expr} {elt : Expr} {gens : List Comprehension} {scope : Scope} {pos : Pos} (he : e = .ListComp elt gens scope pos) (hg : gens[k]? = some ⟨target, iter, ifs, 0⟩) (hl : gens[k + 1]? = none)
    {h₀ : Heap} {L : Addr} {m : Str → Option Value} {nw : Led} {cenv : Env} {C D I : Addr} {src : List Addr} {n : Nat} {P : Nat → Value → Prop} {St : Nat → Heap → Prop} {R : Result → Shared → Prop} {mC : Str → Option Value} {ys₀ : List Value}
    (J : Nat → Led → List Value → Prop)
    (W : Walks PySem.Challenge.pw_og0152_01 w A I (I :: src) [I] n P St) (live : ∀ i h, St i h → ∃ o, h.get? I = some o)
    (quiet : ∀ i (s : Shared) t u (Q : Unit → Shared → Prop) (E : Value → Shared → Prop), St i s.heap → Q () s → wpAny (model PySem.Challenge.pw_og0152_01 w) A (letOwnedTupleGo t (.ref I) u) Q E s)
    (F : Fr h₀ L s.heap m) (N : News h₀ L s.heap nw) (hst : St 0 s.heap) (hacc : s.heap.PlainList D ys₀.toArray) (hns : s.heap.Ns C mC) (hC : cenv.locals = C)
    (hCD : C ≠ D) (hCI : C ≠ I) (hDI : D ≠ I) (hCL : C ≠ L) (hDL : D ≠ L) (hIL : I ≠ L) (hC0 : h₀.get? C = none) (hD0 : h₀.get? D = none) (hI0 : h₀.get? I = none) (off : Off C D I nw)
    (hsrc : ∀ b ∈ src, b ≠ C ∧ b ≠ D ∧ ((∃ o, h₀.get? b = some o) ∨ ∃ o, ∀ i nw ys, J i nw ys → (b, o) ∈ nw))
    (h0 : J 0 nw ys₀) (hlen : ∀ i nw ys, J i nw ys → ys.length ≤ 1000000)
    (turn : ∀ i u ys nw₁ oC mC oD oI s₁, i < n → P i u → J i nw₁ ys → Fr h₀ L s₁.heap m → News h₀ L s₁.heap ((C, oC) :: (D, oD) :: (I, oI) :: nw₁) → NsO oC mC → Off C D I nw₁ →
      wpAny (model PySem.Challenge.pw_og0152_01 w) A (assign target cenv u) (fun _ s₂ => wpAny (model PySem.Challenge.pw_og0152_01 w) A (tests ifs cenv) (fun ok s₃ =>
        if ok = true then wpAny (model PySem.Challenge.pw_og0152_01 w) A (eval elt cenv) (fun y s₄ => EltEnd h₀ L m C D I oD oI (fun nw' => J (i + 1) nw' (ys ++ [y])) s₁ s₄) (fun _ _ => False) s₃
        else EltEnd h₀ L m C D I oD oI (fun nw' => J (i + 1) nw' ys) s₁ s₃) (fun _ _ => False) s₂) (fun _ _ => False) s₁)
    (done : ∀ h' tk nw' ys mC', Fr h₀ L h' m → News h₀ L h' nw' → h'.PlainList D ys.toArray → h'.Ns C mC' → Off C D I nw' → (∀ b o, b ∈ src → s.heap.get? b = some o → h'.get? b = some o) → J n nw' ys → R (.ok .next) { s with heap := h', toks := tk }) :
    codeAny (model PySem.Challenge.pw_og0152_01 w) A (.compLoop e k (.ref I) (.ref D) cenv) R s := by
  have upd : ∀ {h h' : Heap} {C' : Addr}, (∀ b o, b ≠ C' → h.get? b = some o → h'.get? b = some o) → C' ≠ L → h₀.get? C' = none → Fr h₀ L h m → Fr h₀ L h' m := fun hk hL h0' F =>
    ⟨F.ns.at' fun o e => hk _ o (Ne.symm hL) e, fun b o e => hk b o (by rintro rfl; rw [h0'] at e; cases e) (F.keep b o e), F.above⟩
  refine codeAny_loop rfl (fun j s' => ∃ i nw₁ ys h' tk mC₁, s' = { s with heap := h', toks := tk } ∧ Fr h₀ L h' m ∧ News h₀ L h' nw₁ ∧ h'.PlainList D ys.toArray ∧ h'.Ns C mC₁ ∧ Off C D I nw₁ ∧ J i nw₁ ys ∧ St i h' ∧ (∀ b o, b ∈ src → s.heap.get? b = some o → h'.get? b = some o) ∧ i ≤ n ∧ j = n + 1 - i) ?_ (n + 1)
    ⟨0, nw, ys₀, s.heap, s.toks, mC, rfl, F, N, hacc, hns, off, h0, hst, (fun _ _ _ e => e), Nat.zero_le _, rfl⟩
  rintro j s' ⟨i, nw₁, ys, h', tk, mC₁, rfl, F₁, N₁, hD₁, hN₁, off₁, hJ, hst₁, hsk, hi, rfl⟩
  subst he
  show wpAny _ A ((compTurn (.ListComp elt gens scope pos) k (.ref I) (.ref D) cenv).onRaise (fun x => do noteFrame x cenv; theTreesLotGoes x)) _ _ _
  refine wpAny_noted ?_
  rw [gen_turn rfl hg hl]
  refine wpAny_bind (wpAny_standAt (wpAny_bind ?_))
  by_cases hlt : i < n
  · refine W.item i _ _ _ hlt hst₁ fun u h₂ tk₂ hP hst₂ hk₂ => ?_
    have hk₂' : ∀ b o, b ≠ I → h'.get? b = some o → h₂.get? b = some o := fun b o hb e => hk₂ b o (by simpa using hb) e
    have F₂ := upd hk₂' hIL hI0 F₁
    obtain ⟨oI, hoI⟩ := live (i + 1) h₂ hst₂
    obtain ⟨oC, hoC, nC⟩ := NsO.of (hN₁.at' fun o e => hk₂' C o hCI e)
    obtain ⟨cD, hoD⟩ := hD₁.at fun o e => hk₂' D o hDI e
    have N₂ : News h₀ L h₂ ((C, oC) :: (D, _) :: (I, oI) :: nw₁) := fun q hq => by
      rcases List.mem_cons.mp hq with rfl | hq
      · exact ⟨hoC, hCL, hC0⟩
      rcases List.mem_cons.mp hq with rfl | hq
      · exact ⟨hoD, hDL, hD0⟩
      rcases List.mem_cons.mp hq with rfl | hq
      · exact ⟨hoI, hIL, hI0⟩
      · exact ⟨hk₂' _ _ (off₁ q hq).2.2 (N₁ q hq).1, (N₁ q hq).2⟩
    have srcAt : ∀ b ∈ src, ∃ o, h₂.get? b = some o ∧ ∀ (h₅ : Heap) (nw₅ : Led) ys₅ i₅, Fr h₀ L h₅ m → News h₀ L h₅ nw₅ → J i₅ nw₅ ys₅ → h₅.get? b = some o := fun b hb => by
      rcases (hsrc b hb).2.2 with ⟨o, ho⟩ | ⟨o, ho⟩
      · exact ⟨o, F₂.keep _ _ ho, fun h₅ _ _ _ F₅ _ _ => F₅.keep _ _ ho⟩
      · exact ⟨o, (N₂ _ (.tail _ (.tail _ (.tail _ (ho _ _ _ hJ))))).1, fun h₅ nw₅ ys₅ i₅ _ N₅ J₅ => (N₅ _ (ho _ _ _ J₅)).1⟩
    dsimp only
    refine wpAny_bind (quiet (i + 1) _ _ _ _ _ hst₂ ?_)
    refine wpAny_bind (wpAny_mono (turn i u ys nw₁ oC _ _ oI { s with heap := h₂, toks := tk₂ } hlt hP hJ F₂ N₂ nC off₁) (fun _ s₂ h₃ => ?_) fun _ _ f => f.elim)
    refine wpAny_bind (wpAny_mono h₃ (fun ok s₃ h₄ => ?_) fun _ _ f => f.elim)
    cases ok with
    | false =>
      simp only [Bool.false_eq_true, if_false] at h₄ ⊢
      obtain ⟨h₅, tk₅, nw₅, oC₅, mC₅, rfl, F₅, N₅, n₅, off₅, hJ₅⟩ := h₄
      have N₅' : News h₀ L h₅ nw₅ := fun q hq => N₅ q (.tail _ (.tail _ (.tail _ hq)))
      refine wpAny_pure ⟨rfl, n + 1 - (i + 1), by omega, i + 1, nw₅, ys, h₅, tk₅, mC₅, rfl, F₅, N₅', ⟨cD, (N₅ _ (.tail _ (.head _))).1⟩, n₅.ns (N₅ _ (.head _)).1, off₅, hJ₅, ?_, ?_, hlt, rfl⟩
      · refine W.frame _ _ _ hst₂ fun b hb o eo => ?_
        rcases List.mem_cons.mp hb with rfl | hb
        · rw [hoI] at eo; cases eo; exact (N₅ _ (.tail _ (.tail _ (.head _)))).1
        · obtain ⟨o', e1, e2⟩ := srcAt b hb
          rw [e1] at eo; cases eo
          exact e2 h₅ nw₅ ys (i + 1) F₅ N₅' hJ₅
      · intro b o hb eo
        obtain ⟨o', e1, e2⟩ := srcAt b hb
        have e3 := hk₂' b o (fun q => by
          subst q
          exact absurd (hsk _ _ hb eo) (by
            intro e4
            rcases (hsrc _ hb).2.2 with ⟨o5, ho⟩ | ⟨o5, ho⟩
            · rw [hI0] at ho; cases ho
            · exact (off₁ _ (ho _ _ _ hJ)).2.2 rfl)) (hsk b o hb eo)
        rw [e1] at e3; cases e3
        exact e2 h₅ nw₅ ys (i + 1) F₅ N₅' hJ₅
    | true =>
      simp only [if_true] at h₄ ⊢
      refine wpAny_bind (wpAny_bind (wpAny_mono h₄ (fun y s₄ h₆ => ?_) fun _ _ f => f.elim))
      obtain ⟨h₅, tk₅, nw₅, oC₅, mC₅, rfl, F₅, N₅, n₅, off₅, hJ₅⟩ := h₆
      refine wpAny_bind (wpAny_list_append_plain ⟨cD, (N₅ _ (.tail _ (.head _))).1⟩ (fun h₆ hl₆ hs₆ => ?_) ?_)
      · have hk₆ : ∀ b o, b ≠ D → h₅.get? b = some o → h₆.get? b = some o := fun b o hb e => hs₆.extBut b o hb e
        have F₆ := upd hk₆ hDL hD0 F₅
        have N₆ : News h₀ L h₆ nw₅ := fun q hq => ⟨hk₆ _ _ (off₅ q hq).2.1 (N₅ q (.tail _ (.tail _ (.tail _ hq)))).1, (N₅ q (.tail _ (.tail _ (.tail _ hq)))).2⟩
        refine wpAny_pure (wpAny_pure ⟨rfl, n + 1 - (i + 1), by omega, i + 1, nw₅, ys ++ [y], h₆, tk₅, mC₅, rfl, F₆, N₆, by simpa using hl₆, (n₅.ns (N₅ _ (.head _)).1).at' fun o e => hk₆ C o hCD e, off₅, hJ₅, ?_, ?_, hlt, rfl⟩)
        · refine W.frame _ _ _ hst₂ fun b hb o eo => ?_
          rcases List.mem_cons.mp hb with rfl | hb
          · rw [hoI] at eo; cases eo; exact hk₆ _ _ (Ne.symm hDI) (N₅ _ (.tail _ (.tail _ (.head _)))).1
          · obtain ⟨o', e1, e2⟩ := srcAt b hb
            rw [e1] at eo; cases eo
            exact e2 h₆ nw₅ _ (i + 1) F₆ N₆ hJ₅
        · intro b o hb eo
          obtain ⟨o', e1, e2⟩ := srcAt b hb
          have e3 := hk₂' b o (fun q => by
            subst q
            exact absurd (hsk _ _ hb eo) (by
              intro e4
              rcases (hsrc _ hb).2.2 with ⟨o5, ho⟩ | ⟨o5, ho⟩
              · rw [hI0] at ho; cases ho
              · exact (off₁ _ (ho _ _ _ hJ)).2.2 rfl)) (hsk b o hb eo)
          rw [e1] at e3; cases e3
          exact e2 h₆ nw₅ _ (i + 1) F₆ N₆ hJ₅
      · have := hlen _ _ _ hJ
        rw [List.size_toArray, sizeLine_eq]; omega
  · have hin : i = n := by omega
    subst hin
    refine W.done _ _ _ hst₁ fun h₂ tk₂ hk₂ => ?_
    have hk₂' : ∀ b o, b ≠ I → h'.get? b = some o → h₂.get? b = some o := fun b o hb e => hk₂ b o (by simpa using hb) e
    refine wpAny_pure (done h₂ tk₂ nw₁ ys mC₁ (upd hk₂' hIL hI0 F₁) (fun q hq => ⟨hk₂' _ _ (off₁ q hq).2.2 (N₁ q hq).1, (N₁ q hq).2⟩) (hD₁.at fun o e => hk₂' D o hDI e) (hN₁.at' fun o e => hk₂' C o hCI e) off₁ (fun b o hb e => hk₂' b o (fun q => by
        subst q
        rcases (hsrc _ hb).2.2 with ⟨o5, ho⟩ | ⟨o5, ho⟩
        · rw [hI0] at ho; cases ho
        · exact (off₁ _ (ho _ _ _ hJ)).2.2 rfl) (hsk b o hb e)) hJ)
/-- the end of an outer level's turn -/
def LvlEnd (h₀ : Heap) (L : Addr) (m : Str → Option Value) (C D I : Addr) (oI : Obj) (J : Led → List Value → Prop) (s₁ s₄ : Shared) : Prop :=
  ∃ h' tk nw' oC' mC' ys', s₄ = { s₁ with heap := h', toks := tk } ∧ Fr h₀ L h' m ∧ News h₀ L h' ((C, oC') :: (I, oI) :: nw') ∧ h'.PlainList D ys'.toArray ∧ NsO oC' mC' ∧ Off C D I nw' ∧ J nw' ys'
theorem comp_core2 {e : Expr} {k : Nat} {target iter target' iter' : Expr} {ifs' : List Expr} {elt : Expr} {gens : List Comprehension} {scope : Scope} {pos : Pos} (he : e = .ListComp elt gens scope pos) (hg : gens[k]? = some ⟨target, iter, [], 0⟩) (hl : gens[k + 1]? = some ⟨target', iter', ifs', 0⟩)
    {h₀ : Heap} {L : Addr} {m : Str → Option Value} {nw : Led} {cenv : Env} {C D I : Addr} {src : List Addr} {n : Nat} {P : Nat → Value → Prop} {St : Nat → Heap → Prop} {R : Result → Shared → Prop} {mC : Str → Option Value} {ys₀ : List Value}
    (J : Nat → Led → List Value → Prop)
    (W : Walks PySem.Challenge.pw_og0152_01 w A I (I :: src) [I] n P St) (live : ∀ i h, St i h → ∃ o, h.get? I = some o)
    (quiet : ∀ i (s : Shared) t u (Q : Unit → Shared → Prop) (E : Value → Shared → Prop), St i s.heap → Q () s → wpAny (model PySem.Challenge.pw_og0152_01 w) A (letOwnedTupleGo t (.ref I) u) Q E s)
    (F : Fr h₀ L s.heap m) (N : News h₀ L s.heap nw) (hst : St 0 s.heap) (hacc : s.heap.PlainList D ys₀.toArray) (hns : s.heap.Ns C mC)
    (hCD : C ≠ D) (hCI : C ≠ I) (hDI : D ≠ I) (hCL : C ≠ L) (hDL : D ≠ L) (hIL : I ≠ L) (hC0 : h₀.get? C = none) (hD0 : h₀.get? D = none) (hI0 : h₀.get? I = none) (off : Off C D I nw)
    (hsrc : ∀ b ∈ src, b ≠ C ∧ b ≠ D ∧ ((∃ o, h₀.get? b = some o) ∨ ∃ o, ∀ i nw ys, J i nw ys → (b, o) ∈ nw))
    (h0 : J 0 nw ys₀)
    (hs : ∀ x, foldedSetIterable iter' cenv x = pure x)
    (turn : ∀ i u ys nw₁ oC mC oI s₁, i < n → P i u → J i nw₁ ys → Fr h₀ L s₁.heap m → News h₀ L s₁.heap ((C, oC) :: (I, oI) :: nw₁) → s₁.heap.PlainList D ys.toArray → NsO oC mC → Off C D I nw₁ →
      wpAny (model PySem.Challenge.pw_og0152_01 w) A (assign target cenv u) (fun _ s₂ => wpAny (model PySem.Challenge.pw_og0152_01 w) A (eval iter' cenv) (fun x s₃ => wpAny (model PySem.Challenge.pw_og0152_01 w) A (pyIter x) (fun it' s₄ =>
        codeAny (model PySem.Challenge.pw_og0152_01 w) A (.compStart e (k + 1) it' (.ref D) cenv) (fun r s₅ => match r with | .ok _ => LvlEnd h₀ L m C D I oI (J (i + 1)) s₁ s₅ | .error _ => False) s₄) (fun _ _ => False) s₃) (fun _ _ => False) s₂) (fun _ _ => False) s₁)
    (done : ∀ h' tk nw' ys mC', Fr h₀ L h' m → News h₀ L h' nw' → h'.PlainList D ys.toArray → h'.Ns C mC' → Off C D I nw' → J n nw' ys → R (.ok .next) { s with heap := h', toks := tk }) :
    codeAny (model PySem.Challenge.pw_og0152_01 w) A (.compLoop e k (.ref I) (.ref D) cenv) R s := by
  have upd : ∀ {h h' : Heap} {C' : Addr}, (∀ b o, b ≠ C' → h.get? b = some o → h'.get? b = some o) → C' ≠ L → h₀.get? C' = none → Fr h₀ L h m → Fr h₀ L h' m := fun hk hL h0' F =>
    ⟨F.ns.at' fun o e => hk _ o (Ne.symm hL) e, fun b o e => hk b o (by rintro rfl; rw [h0'] at e; cases e) (F.keep b o e), F.above⟩
  refine codeAny_loop rfl (fun j s' => ∃ i nw₁ ys h' tk mC₁, s' = { s with heap := h', toks := tk } ∧ Fr h₀ L h' m ∧ News h₀ L h' nw₁ ∧ h'.PlainList D ys.toArray ∧ h'.Ns C mC₁ ∧ Off C D I nw₁ ∧ J i nw₁ ys ∧ St i h' ∧ i ≤ n ∧ j = n + 1 - i) ?_ (n + 1)
    ⟨0, nw, ys₀, s.heap, s.toks, mC, rfl, F, N, hacc, hns, off, h0, hst, Nat.zero_le _, rfl⟩
  rintro j s' ⟨i, nw₁, ys, h', tk, mC₁, rfl, F₁, N₁, hD₁, hN₁, off₁, hJ, hst₁, hi, rfl⟩
  subst he
  show wpAny _ A ((compTurn (.ListComp elt gens scope pos) k (.ref I) (.ref D) cenv).onRaise (fun x => do noteFrame x cenv; theTreesLotGoes x)) _ _ _
  refine wpAny_noted ?_
  rw [gen_turn2 rfl hg hl]
  refine wpAny_bind (wpAny_standAt (wpAny_bind ?_))
  by_cases hlt : i < n
  · refine W.item i _ _ _ hlt hst₁ fun u h₂ tk₂ hP hst₂ hk₂ => ?_
    have hk₂' : ∀ b o, b ≠ I → h'.get? b = some o → h₂.get? b = some o := fun b o hb e => hk₂ b o (by simpa using hb) e
    have F₂ := upd hk₂' hIL hI0 F₁
    obtain ⟨oI, hoI⟩ := live (i + 1) h₂ hst₂
    obtain ⟨oC, hoC, nC⟩ := NsO.of (hN₁.at' fun o e => hk₂' C o hCI e)
    have N₂ : News h₀ L h₂ ((C, oC) :: (I, oI) :: nw₁) := fun q hq => by
      rcases List.mem_cons.mp hq with rfl | hq
      · exact ⟨hoC, hCL, hC0⟩
      rcases List.mem_cons.mp hq with rfl | hq
      · exact ⟨hoI, hIL, hI0⟩
      · exact ⟨hk₂' _ _ (off₁ q hq).2.2 (N₁ q hq).1, (N₁ q hq).2⟩
    have srcAt : ∀ b ∈ src, ∃ o, h₂.get? b = some o ∧ ∀ (h₅ : Heap) (nw₅ : Led) ys₅ i₅, Fr h₀ L h₅ m → News h₀ L h₅ nw₅ → J i₅ nw₅ ys₅ → h₅.get? b = some o := fun b hb => by
      rcases (hsrc b hb).2.2 with ⟨o, ho⟩ | ⟨o, ho⟩
      · exact ⟨o, F₂.keep _ _ ho, fun h₅ _ _ _ F₅ _ _ => F₅.keep _ _ ho⟩
      · exact ⟨o, (N₂ _ (.tail _ (.tail _ (ho _ _ _ hJ)))).1, fun h₅ nw₅ ys₅ i₅ _ N₅ J₅ => (N₅ _ (ho _ _ _ J₅)).1⟩
    dsimp only
    refine wpAny_bind (quiet (i + 1) _ _ _ _ _ hst₂ ?_)
    refine wpAny_bind (wpAny_mono (turn i u ys nw₁ oC _ oI { s with heap := h₂, toks := tk₂ } hlt hP hJ F₂ N₂ (hD₁.at fun o e => hk₂' D o hDI e) nC off₁) (fun _ s₂ h₃ => ?_) fun _ _ f => f.elim)
    refine wpAny_bind (wpAny_mono h₃ (fun x s₃ h₄ => ?_) fun _ _ f => f.elim)
    refine wpAny_bind (wpAny_standAt (wpAny_bind (wpAny_of_eq (hs x) ?_)))
    refine wpAny_bind (wpAny_holding (wpAny_mono h₄ (fun it' s₄ h₅ => ?_) fun _ _ f => f.elim))
    refine wpAny_bind (wpAny_runOwn (codeAny_mono h₅ fun r s₅ hr => ?_))
    cases r with
    | error x => exact hr.elim
    | ok f =>
      dsimp only at hr ⊢
      obtain ⟨h₅, tk₅, nw₅, oC₅, mC₅, ys₅, rfl, F₅, N₅, hD₅, n₅, off₅, hJ₅⟩ := hr
      have N₅' : News h₀ L h₅ nw₅ := fun q hq => N₅ q (.tail _ (.tail _ hq))
      refine wpAny_pure ⟨rfl, n + 1 - (i + 1), by omega, i + 1, nw₅, ys₅, h₅, tk₅, mC₅, rfl, F₅, N₅', hD₅, n₅.ns (N₅ _ (.head _)).1, off₅, hJ₅, ?_, hlt, rfl⟩
      refine W.frame _ _ _ hst₂ fun b hb o eo => ?_
      rcases List.mem_cons.mp hb with rfl | hb
      · rw [hoI] at eo; cases eo; exact (N₅ _ (.tail _ (.head _))).1
      · obtain ⟨o', e1, e2⟩ := srcAt b hb
        rw [e1] at eo; cases eo
        exact e2 h₅ nw₅ ys₅ (i + 1) F₅ N₅' hJ₅
  · have hin : i = n := by omega
    subst hin
    refine W.done _ _ _ hst₁ fun h₂ tk₂ hk₂ => ?_
    have hk₂' : ∀ b o, b ≠ I → h'.get? b = some o → h₂.get? b = some o := fun b o hb e => hk₂ b o (by simpa using hb) e
    exact wpAny_pure (done h₂ tk₂ nw₁ ys mC₁ (upd hk₂' hIL hI0 F₁) (fun q hq => ⟨hk₂' _ _ (off₁ q hq).2.2 (N₁ q hq).1, (N₁ q hq).2⟩) (hD₁.at fun o e => hk₂' D o hDI e) (hN₁.at' fun o e => hk₂' C o hCI e) off₁ hJ)
/-- the start of a level -/
theorem comp_startk {e : Expr} {k : Nat} {target iter : Expr} {ifs : List Expr} {elt : Expr} {gens : List Comprehension} {scope : Scope} {pos : Pos} (he : e = .ListComp elt gens scope pos) (hg : gens[k]? = some ⟨target, iter, ifs, 0⟩)
    {it acc : Value} {env : Env} {R : Result → Shared → Prop}
    (h0 : codeAny (model PySem.Challenge.pw_og0152_01 w) A (.compLoop e k it acc env) R s)
    (h : wpAny (model PySem.Challenge.pw_og0152_01 w) A (pyIter it) (fun it' s' => codeAny (model PySem.Challenge.pw_og0152_01 w) A (.compLoop e k it' acc env) R s') (fun _ _ => False) s) :
    codeAny (model PySem.Challenge.pw_og0152_01 w) A (.compStart e k it acc env) R s := by
  subst he
  refine codeAny_of_tree ?_
  show wpAny _ _ ((compStart (.ListComp elt gens scope pos) k it acc env).onRaise (fun x => do noteFrame x env; standAt theWindowsPlace)) _ _ s
  refine wpAny_notedAt ?_
  unfold compStart
  have hc : (clausesOf (.ListComp elt gens scope pos))[k]? = some ⟨target, iter, ifs, 0⟩ := hg
  simp only [hc]
  show wpAny _ _ (ask >>= _) _ _ s
  refine wpAny_bind (wpAny_askSetting (wpAny_ite ?_))
  split
  · first
      | exact wpAny_bind (wpAny_pure (wpAny_pure (And.intro rfl h0)))
      | exact wpAny_pure (And.intro rfl h0)
  · first
      | exact wpAny_bind (wpAny_rule (wpAny_bind (wpAny_standAt (wpAny_bind (wpAny_mono h (fun it' s' h' => wpAny_pure (And.intro rfl h')) fun _ _ x => x.elim)))))
      | (refine wpAny_bind (wpAny_rule ?_); show wpAny _ _ (standAt iter.pos >>= _) _ _ s; exact wpAny_bind (wpAny_standAt (wpAny_bind (wpAny_mono h (fun it' s' h' => wpAny_pure (And.intro rfl h')) fun _ _ x => x.elim))))
/-- a comprehension behind its first source -/
def CompGo (w : World) (A : Around) (E : Value → Shared → Prop) (env : Env) (scope : Scope) (cl : List (Str × Addr)) (e : Expr) (use : Option (Value → Sem Unit)) (Q : Value → Shared → Prop) (xv : Value) (s₁ : Shared) : Prop :=
  wpAny (model PySem.Challenge.pw_og0152_01 w) A (pyIter xv) (fun it s₂ => wpAny (model PySem.Challenge.pw_og0152_01 w) A (newList []) (fun acc s₃ =>
    wpAny (model PySem.Challenge.pw_og0152_01 w) A (newFunctionEnv scope env.globals cl [] env.qual none .none (some env)) (fun cenv s₄ =>
      codeAny (model PySem.Challenge.pw_og0152_01 w) A (.compStart e 0 it acc { cenv with scope := relabel scope env }) (compPost (model PySem.Challenge.pw_og0152_01 w) A E use Q acc cenv.locals) s₄) E s₃) E s₂) E s₁
theorem comp_eval {env : Env} {E : Value → Shared → Prop} {elt target iter : Expr} {ifs : List Expr} {rest : List Comprehension} {scope : Scope} {cl : List (Str × Addr)} {pos : Pos} {Q : Value → Shared → Prop}
    (hclos : closureFor scope env = pure cl) (hkind : scope.kind = .function) (hnames : ∀ y ∈ scope.names, y.2 = .local → scope.names.lookup y.1 = some .local)
    (h : wpAny (model PySem.Challenge.pw_og0152_01 w) A (eval iter env) (fun xv s₁ => Stop (CompGo w A E env scope cl (.ListComp elt (⟨target, iter, ifs, 0⟩ :: rest) scope pos) none Q xv s₁)) E s)
    (hs : ∀ x, foldedSetIterable iter env x = pure x := by intro _; rfl) :
    wpAny (model PySem.Challenge.pw_og0152_01 w) A (eval (.ListComp elt (⟨target, iter, ifs, 0⟩ :: rest) scope pos) env) Q E s := by
  rw [eval_ListComp]
  exact wpAny_comprehension_free (use := none) rfl hs hclos hkind hnames h
theorem comp_assign {env : Env} {E : Value → Shared → Prop} {elt target iter : Expr} {ifs : List Expr} {rest : List Comprehension} {scope : Scope} {cl : List (Str × Addr)} {pos spos py : Pos} {y : Str} {Q : Flow → Shared → Prop}
    (hsw : swapsWith (.ListComp elt (⟨target, iter, ifs, 0⟩ :: rest) scope pos) (some (.Name y py)) spos.line env = pure true)
    (hclos : closureFor scope env = pure cl) (hkind : scope.kind = .function) (hnames : ∀ y ∈ scope.names, y.2 = .local → scope.names.lookup y.1 = some .local)
    (h : wpAny (model PySem.Challenge.pw_og0152_01 w) A (eval iter env) (fun xv s₁ => Stop (CompGo w A E env scope cl (.ListComp elt (⟨target, iter, ifs, 0⟩ :: rest) scope pos) (some (assign (.Name y py) env)) (fun _ s' => Q .next s') xv s₁)) E s)
    (hs : ∀ x, foldedSetIterable iter env x = pure x := by intro _; rfl) :
    wpAny (model PySem.Challenge.pw_og0152_01 w) A (exec (.Assign [.Name y py] (.ListComp elt (⟨target, iter, ifs, 0⟩ :: rest) scope pos) spos) env) Q E s := by
  rw [exec_Assign_Name_used _ _ _ _ hsw]
  refine wpAny_bind (wpAny_standAt (wpAny_bind ?_))
  show wpAny _ A (do let _ ← comprehension (.ListComp elt (⟨target, iter, ifs, 0⟩ :: rest) scope pos) scope env _ (newList []) false (eval iter env) (some (assign (.Name y py) env))) _ _ s
  exact wpAny_bind (wpAny_mono (wpAny_comprehension_free (use := some (assign (.Name y py) env)) (Q := fun _ s' => Q .next s') rfl hs hclos hkind hnames h) (fun _ s' hq => wpAny_pure (wpAny_pure hq)) fun _ _ e => e)
theorem fresh_none {h : Heap} {a : Addr} (ha : h.objs.size ≤ a) : h.get? a = none := by
  cases e : h.get? a with
  | none => rfl
  | some o' => exact absurd (Heap.lt_size e) (Nat.not_lt.mpr ha)
/-- what the block's three objects are to the frame -/
structure Three (h₀ : Heap) (L C D I : Addr) : Prop where
  CD : C ≠ D
  CI : C ≠ I
  DI : D ≠ I
  CL : C ≠ L
  DL : D ≠ L
  IL : I ≠ L
  C0 : h₀.get? C = none
  D0 : h₀.get? D = none
  I0 : h₀.get? I = none
  LC : L < C
theorem comp_open {h₀ : Heap} {m : Str → Option Value} {nw : Led} {env : Env} {E : Value → Shared → Prop} {scope : Scope} {cl : List (Str × Addr)} {e : Expr} {use : Option (Value → Sem Unit)} {Q : Value → Shared → Prop} {xv : Value} {src : List Addr} {n : Nat} {P : Nat → Value → Prop} {St : Addr → Nat → Heap → Prop}
    {elt target iter : Expr} {ifs : List Expr} {rest : List Comprehension} {pos : Pos} (he : e = .ListComp elt (⟨target, iter, ifs, 0⟩ :: rest) scope pos)
    (hcell : ∀ y ∈ scope.names, y.2 ≠ .cell) (hkind : scope.kind = .function)
    (it : Iter w A s xv src n P St) (F : Fr h₀ env.locals s.heap m) (N : News h₀ env.locals s.heap nw)
    (go : ∀ C D I (s' : Shared) h' tk mC, s' = { s with heap := h', toks := tk } → Three h₀ env.locals C D I → Fr h₀ env.locals h' m → News h₀ env.locals h' nw → Off C D I nw → h'.PlainList D #[] → h'.Ns C mC → St I 0 h' → I ∉ src → C ∉ src → D ∉ src →
      codeAny (model PySem.Challenge.pw_og0152_01 w) A (.compLoop e 0 (.ref I) (.ref D) (compEnvC scope cl C env)) (compPost (model PySem.Challenge.pw_og0152_01 w) A E use Q (.ref D) C) s') :
    CompGo w A E env scope cl e use Q xv s := by
  unfold CompGo
  refine it.start _ _ fun oI hfree hst => ?_
  have hb := it.below
  have hNlt : ∀ q ∈ nw, q.1 < s.heap.objs.size := fun q hq => Heap.lt_size (N q hq).1
  have hLlt : env.locals < s.heap.objs.size := F.ns.lt
  have h0lt : ∀ b o, h₀.get? b = some o → b < s.heap.objs.size := fun b o e => Heap.lt_size (F.keep b o e)
  refine wpAny_newObj_type (wpAny_newFunctionEnv hcell (by intro y hy; simp at hy) (fun h₁ hns₁ hsb₁ => ?_) hkind)
  dsimp only at hns₁ hsb₁ ⊢
  have hD : (s.heap.push oI).objs.size = s.heap.objs.size + 1 := Heap.size_push ..
  generalize hH : (s.heap.push oI).push { cls := .type "list", dict := none, data := .seq ([] : List Value).toArray } = H at hns₁ hsb₁ ⊢
  have hHs : H.objs.size = s.heap.objs.size + 1 + 1 := by rw [← hH, Heap.size_push, hD]
  rw [hHs] at hns₁ hsb₁ ⊢
  rw [hD]
  have hns : hns₁ = hns₁ := rfl
  have old : ∀ b o, s.heap.get? b = some o → h₁.get? b = some o := fun b o e => hsb₁.extBut b o (Nat.ne_of_lt (Nat.lt_succ_of_lt (Nat.lt_succ_of_lt (Heap.lt_size e)))) (Heap.get?_push_of_some _ (hH ▸ Heap.get?_push_of_some _ (Heap.get?_push_of_some _ e)))
  have oldI : ∀ b o, (s.heap.push oI).get? b = some o → h₁.get? b = some o := fun b o e => hsb₁.extBut b o (Nat.ne_of_lt (by have := Heap.lt_size e; rw [hD] at this; exact Nat.lt_succ_of_lt this)) (Heap.get?_push_of_some _ (hH ▸ Heap.get?_push_of_some _ e))
  have nw0 : ∀ a, s.heap.objs.size ≤ a → h₀.get? a = none := fun a ha => by
    cases q : h₀.get? a with
    | none => rfl
    | some o => exact absurd (h0lt _ _ q) (Nat.not_lt.mpr ha)
  have TT : Three h₀ env.locals (s.heap.objs.size + 1 + 1) (s.heap.objs.size + 1) s.heap.objs.size := ⟨Nat.ne_of_gt (Nat.lt_succ_self _), Nat.ne_of_gt (Nat.lt_succ_of_lt (Nat.lt_succ_self _)), Nat.ne_of_gt (Nat.lt_succ_self _), Nat.ne_of_gt (Nat.lt_succ_of_lt (Nat.lt_succ_of_lt hLlt)), Nat.ne_of_gt (Nat.lt_succ_of_lt hLlt), Nat.ne_of_gt hLlt, nw0 _ (Nat.le_succ_of_le (Nat.le_succ _)), nw0 _ (Nat.le_succ _), nw0 _ (Nat.le_refl _), Nat.lt_succ_of_lt (Nat.lt_succ_of_lt hLlt)⟩
  have F₁ : Fr h₀ env.locals h₁ m := ⟨F.ns.at' fun o e => old _ o e, fun b o e => old b o (F.keep b o e), F.above⟩
  have N₁ : News h₀ env.locals h₁ nw := fun q hq => ⟨old _ _ (N q hq).1, (N q hq).2⟩
  have off : Off (s.heap.objs.size + 1 + 1) (s.heap.objs.size + 1) s.heap.objs.size nw := fun q hq => ⟨Nat.ne_of_lt (Nat.lt_succ_of_lt (Nat.lt_succ_of_lt (hNlt q hq))), Nat.ne_of_lt (Nat.lt_succ_of_lt (hNlt q hq)), Nat.ne_of_lt (hNlt q hq)⟩
  have nsrc : ∀ a, s.heap.objs.size ≤ a → a ∉ src := fun a ha hm => absurd (hb a hm) (Nat.not_lt.mpr ha)
  have hI := nsrc _ (Nat.le_refl s.heap.objs.size)
  have W := it.walks _ hI
  have hst₁ : St s.heap.objs.size 0 h₁ := W.frame _ _ _ hst fun b _ o e => oldI b o e
  have hacc : h₁.PlainList (s.heap.objs.size + 1) #[] := ⟨_, hsb₁.extBut _ _ (Nat.ne_of_lt (Nat.lt_succ_self _)) (Heap.get?_push_of_some _ (by rw [← hH, ← hD]; exact Heap.get?_push_size _ rfl))⟩
  have loop : ∀ tk, codeAny (model PySem.Challenge.pw_og0152_01 w) A (.compLoop e 0 (.ref s.heap.objs.size) (.ref (s.heap.objs.size + 1)) (compEnvC scope cl (s.heap.objs.size + 1 + 1) env)) (compPost (model PySem.Challenge.pw_og0152_01 w) A E use Q (.ref (s.heap.objs.size + 1)) (s.heap.objs.size + 1 + 1)) { s with heap := h₁, toks := tk } := fun tk =>
    go _ _ _ _ h₁ tk _ rfl TT F₁ N₁ off hacc hns₁ hst₁ hI (nsrc _ (Nat.le_succ_of_le (Nat.le_succ _))) (nsrc _ (Nat.le_succ _))
  exact comp_startk he rfl (loop _) (W.self 0 _ _ _ hst₁ (loop _))
/-- a comprehension of one level -/
theorem comp_rule {h₀ : Heap} {m : Str → Option Value} {nw : Led} {env : Env} {E : Value → Shared → Prop} {scope : Scope} {cl : List (Str × Addr)} {use : Option (Value → Sem Unit)} {Q : Value → Shared → Prop} {xv : Value} {src : List Addr} {n : Nat} {P : Nat → Value → Prop} {St : Addr → Nat → Heap → Prop}
    {elt target iter : Expr} {ifs : List Expr} {pos : Pos} (J : Nat → Led → List Value → Prop)
    (hcell : ∀ y ∈ scope.names, y.2 ≠ .cell) (hkind : scope.kind = .function)
    (it : Iter w A s xv src n P St) (F : Fr h₀ env.locals s.heap m) (N : News h₀ env.locals s.heap nw)
    (hsrc : ∀ b ∈ src, (∃ o, h₀.get? b = some o) ∨ ∃ o, ∀ i nw ys, J i nw ys → (b, o) ∈ nw)
    (h0 : J 0 nw []) (hlen : ∀ i nw ys, J i nw ys → ys.length ≤ 1000000)
    (turn : ∀ C D I i u ys nw₁ oC mC oD oI s₁, Three h₀ env.locals C D I → i < n → P i u → J i nw₁ ys → Fr h₀ env.locals s₁.heap m → News h₀ env.locals s₁.heap ((C, oC) :: (D, oD) :: (I, oI) :: nw₁) → NsO oC mC → Off C D I nw₁ →
      wpAny (model PySem.Challenge.pw_og0152_01 w) A (assign target (compEnvC scope cl C env) u) (fun _ s₂ => wpAny (model PySem.Challenge.pw_og0152_01 w) A (tests ifs (compEnvC scope cl C env)) (fun ok s₃ =>
        if ok = true then wpAny (model PySem.Challenge.pw_og0152_01 w) A (eval elt (compEnvC scope cl C env)) (fun y s₄ => EltEnd h₀ env.locals m C D I oD oI (fun nw' => J (i + 1) nw' (ys ++ [y])) s₁ s₄) (fun _ _ => False) s₃
        else EltEnd h₀ env.locals m C D I oD oI (fun nw' => J (i + 1) nw' ys) s₁ s₃) (fun _ _ => False) s₂) (fun _ _ => False) s₁)
    (fin : ∀ C D I h' tk nw' ys mC c, Three h₀ env.locals C D I → Fr h₀ env.locals h' m → News h₀ env.locals h' ((D, listOf ys.toArray c) :: nw') → h'.Ns C mC → Off C D I nw' → J n nw' ys → compPost (model PySem.Challenge.pw_og0152_01 w) A E use Q (.ref D) C (.ok .next) { s with heap := h', toks := tk }) :
    CompGo w A E env scope cl (.ListComp elt [⟨target, iter, ifs, 0⟩] scope pos) use Q xv s := by
  refine comp_open rfl hcell hkind it F N fun C D I s' h' tk mC es TT F₁ N₁ off hacc hns hst hI hC hD => ?_
  subst es
  refine comp_core rfl rfl rfl J (it.walks I hI) (it.live I) (it.quiet I) F₁ N₁ hst (ys₀ := []) hacc hns rfl TT.CD TT.CI TT.DI TT.CL TT.DL TT.IL TT.C0 TT.D0 TT.I0 off (fun b hb => ⟨fun q => hC (q ▸ hb), fun q => hD (q ▸ hb), hsrc b hb⟩) h0 hlen
    (fun i u ys nw₁ oC mC oD oI s₁ => turn C D I i u ys nw₁ oC mC oD oI s₁ TT) (fun h₂ tk₂ nw₂ ys mC₂ F₂ N₂ hD₂ hN₂ off₂ _ hJ => ?_)
  obtain ⟨c, hc⟩ := hD₂
  exact fin C D I h₂ tk₂ nw₂ ys mC₂ c TT F₂ (fun q hq => by
    rcases List.mem_cons.mp hq with rfl | hq
    · exact ⟨hc, TT.DL, TT.D0⟩
    · exact N₂ q hq) hN₂ off₂ hJ
theorem fin_none {h₀ h' : Heap} {L C D I : Addr} {m mC : Str → Option Value} {nw' : Led} {ys : List Value} {c : Nat} {E : Value → Shared → Prop} {Q : Value → Shared → Prop} {tk : Nat} (TT : Three h₀ L C D I) (F : Fr h₀ L h' m) (N : News h₀ L h' ((D, listOf ys.toArray c) :: nw')) (n : h'.Ns C mC) (off : Off C D I nw')
    (h : ∀ h'', Fr h₀ L h'' m → News h₀ L h'' ((D, listOf ys.toArray c) :: nw') → (∀ q ∈ nw', q.1 ≠ D) → Q (.ref D) { s with heap := h'', toks := tk }) :
    compPost (model PySem.Challenge.pw_og0152_01 w) A E none Q (.ref D) C (.ok .next) { s with heap := h', toks := tk } := by
  refine ⟨mC, n, fun h'' hs => h h'' ⟨F.ns.at' fun o e => hs.extBut _ o (Ne.symm TT.CL) e, fun b o e => hs.extBut b o (by rintro rfl; rw [TT.C0] at e; cases e) (F.keep b o e), F.above⟩ (fun q hq => ?_) fun q hq => (off q hq).2.1⟩
  refine ⟨hs.extBut _ _ ?_ (N q hq).1, (N q hq).2⟩
  rcases List.mem_cons.mp hq with rfl | hq
  · exact Ne.symm TT.CD
  · exact (off q hq).1
theorem fin_local {h₀ h' : Heap} {env : Env} {C D I : Addr} {m mC : Str → Option Value} {nw' : Led} {ys : List Value} {c : Nat} {E : Value → Shared → Prop} {Q : Value → Shared → Prop} {tk : Nat} {y : Str} {py : Pos} (TT : Three h₀ env.locals C D I) (F : Fr h₀ env.locals h' m) (N : News h₀ env.locals h' ((D, listOf ys.toArray c) :: nw')) (n : h'.Ns C mC) (off : Off C D I nw')
    (hy : env.kindOf y = some .local) (hp : (env.scope.kind == .class || (env.scope.kind == .module && env.locals != env.globals)) = false)
    (h : ∀ h'' tk, Fr h₀ env.locals h'' (fun z => if z = y then some (.ref D) else m z) → News h₀ env.locals h'' ((D, listOf ys.toArray c) :: nw') → (∀ q ∈ nw', q.1 ≠ D) → Q .none { s with heap := h'', toks := tk }) :
    compPost (model PySem.Challenge.pw_og0152_01 w) A E (some (assign (.Name y py) env)) Q (.ref D) C (.ok .next) { s with heap := h', toks := tk } := by
  show wpAny _ A (assign (.Name y py) env (.ref D)) _ _ _
  refine wpAny_assign_Name (wpAny_storeName_local hy F.ns (fun h₂ hn₂ hs₂ => ?_) hp)
  have F₂ := F.set hn₂ hs₂
  have N₂ : News h₀ env.locals h₂ ((D, listOf ys.toArray c) :: nw') := N.set hs₂
  refine ⟨mC, n.sameBut hs₂ TT.CL, fun h'' hs => h h'' _ ⟨F₂.ns.at' fun o e => hs.extBut _ o (Ne.symm TT.CL) e, fun b o e => hs.extBut b o (by rintro rfl; rw [TT.C0] at e; cases e) (F₂.keep b o e), F.above⟩ (fun q hq => ?_) fun q hq => (off q hq).2.1⟩
  refine ⟨hs.extBut _ _ ?_ (N₂ q hq).1, (N₂ q hq).2⟩
  rcases List.mem_cons.mp hq with rfl | hq
  · exact Ne.symm TT.CD
  · exact (off q hq).1
theorem news_perm {h₀ h : Heap} {L : Addr} {a b : Led} (N : News h₀ L h a) (k : ∀ q ∈ b, q ∈ a) : News h₀ L h b := fun q hq => N q (k q hq)
theorem perm3 {c d i : Addr × Obj} {tl nw : Led} : ∀ q ∈ c :: d :: i :: (tl ++ nw), q ∈ tl ++ c :: d :: i :: nw := by
  intro q hq
  simp only [List.mem_cons, List.mem_append] at hq ⊢
  rcases hq with h | h | h | h | h
  · exact .inr (.inl h)
  · exact .inr (.inr (.inl h))
  · exact .inr (.inr (.inr (.inl h)))
  · exact .inl h
  · exact .inr (.inr (.inr (.inr h)))
/-- what is new stands off what stood -/
theorem new_off {h₀ h h' : Heap} {L : Addr} {nw tl : Led} (N : News h₀ L h nw) (n : NewIn h h' tl) : ∀ q ∈ tl, ∀ r ∈ nw, q.1 ≠ r.1 := fun q hq r hr e => by
  have h1 := (n q hq).2
  rw [e, (N r hr).1] at h1
  cases h1
theorem off_tl {C D I : Addr} {oC oD oI : Obj} {tl nw : Led} (O : ∀ q ∈ tl, ∀ r ∈ ((C, oC) :: (D, oD) :: (I, oI) :: nw), q.1 ≠ r.1) : Off C D I tl := fun q hq => ⟨O q hq _ (.head _), O q hq _ (.tail _ (.head _)), O q hq _ (.tail _ (.tail _ (.head _)))⟩
theorem Off.append {C D I : Addr} {a b : Led} (x : Off C D I a) (y : Off C D I b) : Off C D I (a ++ b) := fun q hq => (List.mem_append.mp hq).elim (x q) (y q)
theorem Off.cons {C D I : Addr} {q : Addr × Obj} {b : Led} (x : q.1 ≠ C ∧ q.1 ≠ D ∧ q.1 ≠ I) (y : Off C D I b) : Off C D I (q :: b) := fun r hr => by
  rcases List.mem_cons.mp hr with rfl | hr
  · exact x
  · exact y r hr
theorem Off.nil {C D I : Addr} : Off C D I [] := fun _ h => nomatch h
theorem asg_name {h₀ : Heap} {L : Addr} {m : Str → Option Value} {rest : Led} {cenv : Env} {C : Addr} {oC : Obj} {mC : Str → Option Value} {x : Str} {px : Pos} {u : Value} {Q : Unit → Shared → Prop} {E : Value → Shared → Prop}
    (F : Fr h₀ L s.heap m) (N : News h₀ L s.heap ((C, oC) :: rest)) (hC : NsO oC mC) (off : ∀ q ∈ rest, q.1 ≠ C) (hCL : C ≠ L) (hC0 : h₀.get? C = none) (hl : cenv.locals = C)
    (hk : cenv.kindOf x = some .local) (hp : (cenv.scope.kind == .class || (cenv.scope.kind == .module && cenv.locals != cenv.globals)) = false)
    (k : ∀ oC' h', Fr h₀ L h' m → News h₀ L h' ((C, oC') :: rest) → NsO oC' (fun y => if y = x then some u else mC y) → Q () { s with heap := h', toks := s.toks + 1 }) :
    wpAny (model PySem.Challenge.pw_og0152_01 w) A (assign (.Name x px) cenv u) Q E s := by
  subst hl
  refine wpAny_assign_Name (wpAny_storeName_local hk (hC.ns (N _ (.head _)).1) (fun h₂ hn₂ hs₂ => ?_) hp)
  obtain ⟨o', ho', n'⟩ := NsO.of hn₂
  refine k o' h₂ ⟨F.ns.at' fun o e => hs₂.extBut _ o (Ne.symm hCL) e, fun b o e => hs₂.extBut b o (by rintro rfl; rw [hC0] at e; cases e) (F.keep b o e), F.above⟩ (fun q hq => ?_) n'
  rcases List.mem_cons.mp hq with rfl | hq
  · exact ⟨ho', (N _ (.head _)).2⟩
  · exact ⟨hs₂.extBut _ _ (off q hq) (N q (.tail _ hq)).1, (N q (.tail _ hq)).2⟩
/-- the turn of a block with one name and no test -/
theorem turn_name {h₀ : Heap} {L : Addr} {m : Str → Option Value} {nw₁ : Led} {scope : Scope} {cl : List (Str × Addr)} {env : Env} {C D I : Addr} {oC oD oI : Obj} {mC : Str → Option Value} {x : Str} {px : Pos} {u : Value} {elt : Expr} {G : Value → Shared → Prop} {G' : Shared → Prop}
    (F : Fr h₀ L s.heap m) (N : News h₀ L s.heap ((C, oC) :: (D, oD) :: (I, oI) :: nw₁)) (hC : NsO oC mC) (off : Off C D I nw₁) (TT : Three h₀ L C D I)
    (hk : (compEnvC scope cl C env).kindOf x = some .local) (hp : ((compEnvC scope cl C env).scope.kind == .class || ((compEnvC scope cl C env).scope.kind == .module && (compEnvC scope cl C env).locals != (compEnvC scope cl C env).globals)) = false)
    (k : ∀ oC' h', Fr h₀ L h' m → News h₀ L h' ((C, oC') :: (D, oD) :: (I, oI) :: nw₁) → NsO oC' (fun y => if y = x then some u else mC y) → wpAny (model PySem.Challenge.pw_og0152_01 w) A (eval elt (compEnvC scope cl C env)) G (fun _ _ => False) { s with heap := h', toks := s.toks + 1 }) :
    wpAny (model PySem.Challenge.pw_og0152_01 w) A (assign (.Name x px) (compEnvC scope cl C env) u) (fun _ s₂ => wpAny (model PySem.Challenge.pw_og0152_01 w) A (tests [] (compEnvC scope cl C env)) (fun ok s₃ =>
        if ok = true then wpAny (model PySem.Challenge.pw_og0152_01 w) A (eval elt (compEnvC scope cl C env)) G (fun _ _ => False) s₃ else G' s₃) (fun _ _ => False) s₂) (fun _ _ => False) s := by
  refine asg_name F N hC (fun q hq => ?_) TT.CL TT.C0 rfl hk hp fun oC' h' F' N' n' => tests_nil ?_
  · rcases List.mem_cons.mp hq with rfl | hq
    · exact Ne.symm TT.CD
    rcases List.mem_cons.mp hq with rfl | hq
    · exact Ne.symm TT.CI
    · exact (off q hq).1
  · rw [if_pos rfl]; exact k oC' h' F' N' n'
theorem nmC_L {M : Model} {E : Value → Shared → Prop} {h₀ : Heap} {L : Addr} {nw : Led} {scope : Scope} {cl : List (Str × Addr)} {env : Env} {C : Addr} {oC : Obj} {mC : Str → Option Value} {x : Str} {pos : Pos} {v : Value} {Q : Value → Shared → Prop}
    (N : News h₀ L s.heap nw) (hm : (C, oC) ∈ nw) (hC : NsO oC mC) (hv : mC x = some v) (h : Q v s) (hk : (compEnvC scope cl C env).scope.kind = .function) (hx : (compEnvC scope cl C env).kindOf x = some .local) (hd : (x == ("__debug__" : Str)) = false) :
    wpAny M A (eval (.Name x pos) (compEnvC scope cl C env)) Q E s := wpAny_Name (wpAny_loadName_local (env := compEnvC scope cl C env) hk hx (hC.ns (N _ hm).1) hv h) hd
end
local macro_rules | `(tactic| walk_at "eval ListComp") => `(tactic| (k_here; k_dflt (refine' comp_eval ?hc ?hk ?hn ?_ ?hs; (case hc => with_unfolding_all rfl); (case hk => exact rfl); (case hn => decide); (case hs => intro _; with_unfolding_all rfl))))
local macro_rules | `(tactic| walk_at "exec Assign cons ListComp") => `(tactic| (k_here; k_dflt (refine' comp_assign ?hw ?hc ?hk ?hn ?_ ?hs; (case hw => with_unfolding_all rfl); (case hc => with_unfolding_all rfl); (case hk => exact rfl); (case hn => decide); (case hs => intro _; with_unfolding_all rfl))))
local macro_rules | `(tactic| walk_at "eval Name") => `(tactic| (k_here; k_dflt (refine' nmC_L ?N ?hm ?hC ?hv ?_ ?hk ?hx ?hd; (case hx => exact rfl); (case hk => exact rfl); (case hd => decide); (case N => k_asm); (case hC => assumption); (case hm => k_mem); (case hv => first | exact rfl | assumption); k_whole)))
/-! part D2 -/
theorem HH.up {h₀ h : Heap} {L : Addr} {m : Str → Option Value} (F : Fr h₀ L h m) : ∀ a o, HH h₀ a o → HH h a o := fun a o e => F.keep a o e
theorem HH.ofN {h₀ h : Heap} {L : Addr} {nw tl : Led} (N : News h₀ L h nw) (k : ∀ q ∈ tl, q ∈ nw) : ∀ a o, ML tl a o → HH h a o := fun _ _ e => (N _ (k _ e)).1
abbrev tupOf (its : Array Value) (n : Nat) : Obj := { cls := .type "tuple", data := .seq its n }
theorem newIn_of {h₀ h : Heap} {L : Addr} {nw tl : Led} (N : News h₀ L h nw) (k : ∀ q ∈ tl, q ∈ nw) : NewIn h₀ h tl := fun q m => ⟨(N q (k q m)).1, (N q (k q m)).2.2⟩
theorem dval (t : Int) : (dpl t = 1 ∧ dtop t = t) ∨ (dpl t = 0 ∧ 10 * dtop t = t) := by
  unfold dpl dtop
  split
  · right; exact ⟨rfl, by omega⟩
  · left; exact ⟨rfl, rfl⟩
section
variable {p : Program} {loose : List Str} {w : World} {mean : ExcName → Option Value} {mg mb : Str → Option Value} {A : Around} {s : Shared} {Q E : Value → Shared → Prop}
def sgn (n : Int) : Int := if n = 0 then 0 else if 0 < n then 1 else -1
theorem sign_of_spec (hA : Room 1 A) (X : (hd.heap_39 w.params).In s.heap) (T : Top p loose mean mg mb s.heap) {n : Int} {t : Tok}
    (ret : ∀ h' tk u m, Ext s.heap h' → m = sgn n → Q (.int m u) { s with heap := h', toks := tk }) : wpAny (model PySem.Challenge.pw_og0152_01 w) A (call (.ref 161) [.int n t]) Q E s := by
  refine wpAny_call ?_
  k_dflt (refine' enter (binds := [(Str.ofString "number", .int n t)]) ?k1 ?k2 ?k6 ?k7 ?k8 ?k9 ?kB ?_ ?c2 ?c3 ?c4 ?c5; walk_at "m_in")
  walk_at "m_pure"
  k_steps
  all_goals refine ret _ _ _ _ (Fr.keep (by assumption)) ?_
  all_goals unfold sgn
  · rw [if_pos (by assumption)]
  · rw [if_neg (by omega), if_pos (by omega)]
  · rw [if_neg (by omega), if_neg (by omega)]
theorem decimal_of_spec (hA : Room 1 A) (X : (hd.heap_39 w.params).In s.heap) (T : Top p loose mean mg mb s.heap) {v : Value} {t : Int} (hv : DecBy w.params (HH s.heap) v t)
    (ret : ∀ h' tk, Ext s.heap h' → Q v { s with heap := h', toks := tk }) : wpAny (model PySem.Challenge.pw_og0152_01 w) A (call (.ref 168) [v]) Q E s := by
  obtain ⟨x, d, t1, t2, t3, t4, rfl, hx, hdd⟩ := hv
  unfold HH at hx hdd
  refine wpAny_call ?_
  k_dflt (refine' enter (binds := [(Str.ofString "value", .ref x)]) ?k1 ?k2 ?k6 ?k7 ?k8 ?k9 ?kB ?_ ?c2 ?c3 ?c4 ?c5; walk_at "m_in")
  walk_at "m_pure"
  k_steps
  all_goals refine ret _ _ (Fr.keep (by assumption))
end
local macro_rules | `(tactic| walk_at "m_hv") => `(tactic| (first | exact DecBy.mono (HH.up (by k_asm)) (by assumption)))
section
variable {p : Program} {loose : List Str} {w : World} {mean : ExcName → Option Value} {mg mb : Str → Option Value} {A : Around} {s : Shared} {Q E : Value → Shared → Prop}
end
local macro_rules | `(tactic| walk_at "call ref") => `(tactic| (k_here; (refine' decimal_of_spec ?hA ?X ?T ?hv ?_; (case hA => walk_at "m_room"); (case X => k_in); (case T => walk_at "m_top"); (case hv => walk_at "m_hv")); intro h' tk' e'; (obtain ⟨F', N'⟩ := news_more (by k_asm) (by k_asm) e' NewIn.nil); clear e'; (try simp only [List.nil_append] at N'); (try k_sweep)))
section
variable {p : Program} {loose : List Str} {w : World} {mean : ExcName → Option Value} {mg mb : Str → Option Value} {A : Around} {s : Shared} {Q E : Value → Shared → Prop}
theorem max_lit {h₀ : Heap} {L : Addr} {m : Str → Option Value} {news : Led} {a b c : Int} {t u : Tok} (hh : A.handled = none) (F : Fr h₀ L s.heap m) (N : News h₀ L s.heap news) (hc : (if b > a then b else a) = c)
    (h : ∀ h' tk v, Fr h₀ L h' m → News h₀ L h' news → Q (.int c v) { s with heap := h', toks := tk }) :
    wpAny (model PySem.Challenge.pw_og0152_01 w) A (call (.builtin "max") [.int a t, .int b u]) Q E s := max_two_N hh F N fun h' tk F' N' => by rw [hc]; exact h h' tk _ F' N'
theorem pow_lit {n : Int} {t u : Tok} {c : Int} (hn : (n = 0 ∧ c = 1) ∨ (n = 1 ∧ c = 10)) (h : Q (.int c s.toks) { s with toks := s.toks + 1 }) :
    wpAny (model PySem.Challenge.pw_og0152_01 w) A (binaryOp .Pow (.int 10 t) (.int n u)) Q E s := by
  rcases hn with ⟨rfl, rfl⟩ | ⟨rfl, rfl⟩
  · exact pow_int_small (by decide) (by decide) (by decide) h
  · exact pow_int_small (by decide) (by decide) (by decide) h
end
local macro_rules | `(tactic| walk_at "call builtin:max") => `(tactic| (k_here; (with_reducible show wpAny _ _ (call (Value.builtin _) [Value.int _ _, Value.int _ _]) _ _ _); (first | (refine' max_lit (c := 1) ?hh ?F ?N ?hc ?_; (case hc => decide)) | (refine' max_lit (c := 0) ?hh ?F ?N ?hc ?_; (case hc => decide))); (case hh => with_unfolding_all rfl); (case F => k_asm); (case N => k_asm); intro h' tk' v' F' N'; (try k_sweep)))
section
variable {p : Program} {loose : List Str} {w : World} {mean : ExcName → Option Value} {mg mb : Str → Option Value} {A : Around} {s : Shared} {Q E : Value → Shared → Prop}
end
local macro_rules | `(tactic| walk_at "binaryOp Pow int int") => `(tactic| (first | (refine pow_lit (.inl ⟨by decide, rfl⟩) ?_) | (refine pow_lit (.inr ⟨by decide, rfl⟩) ?_)))
section
variable {p : Program} {loose : List Str} {w : World} {mean : ExcName → Option Value} {mg mb : Str → Option Value} {A : Around} {s : Shared} {Q E : Value → Shared → Prop}
theorem at_one_scale_spec (hA : Room 2 A) (X : (hd.heap_39 w.params).In s.heap) (T : Top p loose mean mg mb s.heap) {v u : Value} {t r : Int} (hv : DecBy w.params (HH s.heap) v t) (hu : DecBy w.params (HH s.heap) u r)
    (ret : ∀ h' tk D a c pl x1 x2 x3 n, Ext s.heap h' → NewIn s.heap h' [(D, tupOf #[.int a x1, .int c x2, .int pl x3] n)] → ((pl = 1 ∧ a = t ∧ c = r) ∨ (pl = 0 ∧ 10 * a = t ∧ 10 * c = r)) → Q (.ref D) { s with heap := h', toks := tk }) :
    wpAny (model PySem.Challenge.pw_og0152_01 w) A (call (.ref 175) [v, u]) Q E s := by
  have hv' := hv
  have hu' := hu
  obtain ⟨x, d, t1, t2, t3, t4, rfl, hx, hdd⟩ := hv'
  obtain ⟨y, dy, r1, r2, r3, r4, rfl, hy, hdy⟩ := hu'
  unfold HH at hx hdd hy hdy
  have ht := dval t
  have hr := dval r
  generalize dtop t = a at hdd ht
  generalize dpl t = b at hdd ht
  generalize dtop r = c at hdy hr
  generalize dpl r = e at hdy hr
  obtain ⟨hn, dp, fr, gd, un⟩ := A
  obtain rfl : hn = none := hA.handled
  rcases ht with ⟨rfl, ht⟩ | ⟨rfl, ht⟩ <;> rcases hr with ⟨rfl, hr⟩ | ⟨rfl, hr⟩
  all_goals
    refine wpAny_call ?_
    k_dflt (refine' enter (binds := [(Str.ofString "one", .ref x), (Str.ofString "other", .ref y)]) ?k1 ?k2 ?k6 ?k7 ?k8 ?k9 ?kB ?_ ?c2 ?c3 ?c4 ?c5; walk_at "m_in")
    walk_at "m_pure"
    k_steps
    refine ret _ _ _ _ _ _ _ _ _ _ (Fr.keep (by assumption)) (newIn_of (by assumption) (by intro q hq; exact hq)) ?_
    omega
end
local macro_rules | `(tactic| walk_at "call ref") => `(tactic| (k_here; (refine' at_one_scale_spec ?hA ?X ?T ?hv ?hu ?_; (case hA => walk_at "m_room"); (case X => k_in); (case T => walk_at "m_top"); (case hv => walk_at "m_hv"); (case hu => walk_at "m_hv")); intro h' tk' D' a' c' pl' x1' x2' x3' n' e' nn' hc'; (obtain ⟨F', N'⟩ := news_more (by k_asm) (by k_asm) e' nn'); clear e' nn'; (try simp only [List.nil_append, List.cons_append] at N'); (try k_sweep)))
section
variable {p : Program} {loose : List Str} {w : World} {mean : ExcName → Option Value} {mg mb : Str → Option Value} {A : Around} {s : Shared} {Q E : Value → Shared → Prop}
end
local macro_rules | `(tactic| walk_at "call ref") => `(tactic| (k_here; (refine' sign_of_spec ?hA ?X ?T ?_; (case hA => walk_at "m_room"); (case X => k_in); (case T => walk_at "m_top")); intro h' tk' u' m' e' hm'; (obtain ⟨F', N'⟩ := news_more (by k_asm) (by k_asm) e' NewIn.nil); clear e'; (try simp only [List.nil_append, List.cons_append] at N'); (try k_sweep)))
section
variable {p : Program} {loose : List Str} {w : World} {mean : ExcName → Option Value} {mg mb : Str → Option Value} {A : Around} {s : Shared} {Q E : Value → Shared → Prop}
end
local macro_rules | `(tactic| walk_at "call ref") => `(tactic| (k_here; (refine' dec_new ?hA ?X ?T ?hb ?_; (case hA => walk_at "m_room"); (case X => k_in); (case T => walk_at "m_top"); (case hb => omega)); intro h' tk' tl' r' e' nn' hd'; (obtain ⟨F', N'⟩ := news_more (by k_asm) (by k_asm) e' nn'); clear e' nn'; (try simp only [List.nil_append, List.cons_append] at N'); (try k_sweep)))
section
variable {p : Program} {loose : List Str} {w : World} {mean : ExcName → Option Value} {mg mb : Str → Option Value} {A : Around} {s : Shared} {Q E : Value → Shared → Prop}
theorem plus_spec (hA : Room 3 A) (X : (hd.heap_39 w.params).In s.heap) (T : Top p loose mean mg mb s.heap) {v u : Value} {t r : Int} (hv : DecBy w.params (HH s.heap) v t) (hu : DecBy w.params (HH s.heap) u r)
    (ret : ∀ h' tk tl x, Ext s.heap h' → NewIn s.heap h' tl → DecBy w.params (ML tl) x (t + r) → Q x { s with heap := h', toks := tk }) :
    wpAny (model PySem.Challenge.pw_og0152_01 w) A (call (.ref 70) [v, u]) Q E s := by
  obtain ⟨hn, dp, fr, gd, un⟩ := A
  obtain rfl : hn = none := hA.handled
  refine wpAny_call ?_
  k_dflt (refine' enter (binds := [(Str.ofString "self", v), (Str.ofString "other", u)]) ?k1 ?k2 ?k6 ?k7 ?k8 ?k9 ?kB ?_ ?c2 ?c3 ?c4 ?c5; walk_at "m_in")
  walk_at "m_pure"
  k_steps
  rename (DecBy _ _ _ _) => hq
  rename (_ ∨ _) => hc
  refine ret _ _ _ _ (Fr.keep (by assumption)) (newIn_of (by assumption) fun q m => List.mem_append.mpr (.inl m)) ?_
  refine (congrArg (DecBy w.params _ _) ?_).mp hq
  rcases hc with ⟨rfl, rfl, rfl⟩ | ⟨rfl, rfl, rfl⟩
  · rw [if_neg (by decide)]
  · rw [if_pos rfl, Int.mul_add]
theorem compared_spec (hA : Room 3 A) (X : (hd.heap_39 w.params).In s.heap) (T : Top p loose mean mg mb s.heap) {v u : Value} {t r : Int} (hv : DecBy w.params (HH s.heap) v t) (hu : DecBy w.params (HH s.heap) u r)
    (ret : ∀ h' tk m k, Ext s.heap h' → m = sgn (t - r) → Q (.int m k) { s with heap := h', toks := tk }) :
    wpAny (model PySem.Challenge.pw_og0152_01 w) A (call (.ref 98) [v, u]) Q E s := by
  obtain ⟨hn, dp, fr, gd, un⟩ := A
  obtain rfl : hn = none := hA.handled
  refine wpAny_call ?_
  k_dflt (refine' enter (binds := [(Str.ofString "self", v), (Str.ofString "other", u)]) ?k1 ?k2 ?k6 ?k7 ?k8 ?k9 ?kB ?_ ?c2 ?c3 ?c4 ?c5; walk_at "m_in")
  walk_at "m_pure"
  k_steps
  rename (_ = sgn _) => hm
  rename (_ ∨ _) => hc
  refine ret _ _ _ _ (Fr.keep (by assumption)) (hm.trans ?_)
  unfold sgn
  rcases hc with ⟨rfl, rfl, rfl⟩ | ⟨rfl, rfl, rfl⟩
  · rfl
  · (repeat' split) <;> omega
theorem told_spec (hA : Room 1 A) (X : (hd.heap_39 w.params).In s.heap) (T : Top p loose mean mg mb s.heap) {v : Value} {t : Int} (hv : DecBy w.params (HH s.heap) v t)
    (ret : ∀ h' tk D x1 x2 n, Ext s.heap h' → NewIn s.heap h' [(D, tupOf #[.int (dtop t) x1, .int (dpl t) x2] n)] → Q (.ref D) { s with heap := h', toks := tk }) :
    wpAny (model PySem.Challenge.pw_og0152_01 w) A (call (.ref 126) [v]) Q E s := by
  obtain ⟨x, d, t1, t2, t3, t4, rfl, hx, hdd⟩ := hv
  unfold HH at hx hdd
  obtain ⟨hn, dp, fr, gd, un⟩ := A
  obtain rfl : hn = none := hA.handled
  refine wpAny_call ?_
  k_dflt (refine' enter (binds := [(Str.ofString "self", .ref x)]) ?k1 ?k2 ?k6 ?k7 ?k8 ?k9 ?kB ?_ ?c2 ?c3 ?c4 ?c5; walk_at "m_in")
  walk_at "m_pure"
  k_steps
  exact ret _ _ _ _ _ _ (Fr.keep (by assumption)) (newIn_of (by assumption) (by intro q hq; exact hq))
end
/-! part D3 -/
local macro_rules | `(tactic| walk_at "exec For") => `(tactic| (k_here; (refine for_start ?_)))
local macro_rules | `(tactic| walk_at "exec For Name Name cons nil") => `(tactic| (k_here; (refine for_start ?_)))
local macro_rules | `(tactic| walk_at "exec For Name Subscript cons nil") => `(tactic| (k_here; (refine for_start ?_)))
theorem len_listV {prog : Program} {w : World} {A : Around} {E : Value → Shared → Prop} {s : Shared} {l : Addr} {vs : List Value} {Q : Value → Shared → Prop} (hl : s.heap.IsList l vs.toArray) (hz : vs.length ≤ 1000000) (h : Q (.int (vs.length : Int) (s.toks + 1)) { s with toks := s.toks + 1 + 1 }) :
    wpAny (model prog w) A (call (.builtin "len") [.ref l]) Q E s := by
  refine PyProof.Rows.len_list hl ?_ ?_
  · rw [List.size_toArray]; omega
  · rw [List.size_toArray]; exact h
theorem pick_nn (vs : List Value) {x y : Int} (hx : 0 ≤ x) (hy : 0 ≤ y) : (slicePick vs.toArray (some x) (some y) none).toList = (vs.drop x.toNat).take (y.toNat - x.toNat) := by
  obtain ⟨a, rfl⟩ := Int.eq_ofNat_of_zero_le hx
  obtain ⟨b, rfl⟩ := Int.eq_ofNat_of_zero_le hy
  rw [slicePick_plain]
  simp only [Option.elim, clipAt_nat, List.size_toArray, Int.toNat_natCast]
  show (vs.drop (min a vs.length)).take (min b vs.length - min a vs.length) = _
  rw [kmk_drop_min]
  by_cases h : b ≤ vs.length
  · by_cases h2 : a ≤ vs.length
    · rw [Nat.min_eq_left h, Nat.min_eq_left h2]
    · rw [List.drop_of_length_le (by omega)]; simp
  · rw [Nat.min_eq_right (by omega)]
    by_cases h2 : a ≤ vs.length
    · rw [Nat.min_eq_left h2, List.take_of_length_le (by rw [List.length_drop]; omega), List.take_of_length_le (by rw [List.length_drop]; omega)]
    · rw [List.drop_of_length_le (by omega)]; simp
theorem pick_n_ (vs : List Value) {x : Int} (hx : 0 ≤ x) : (slicePick vs.toArray (some x) none none).toList = vs.drop x.toNat := by
  obtain ⟨a, rfl⟩ := Int.eq_ofNat_of_zero_le hx
  rw [slicePick_from']
  rfl
theorem slice_nn {prog : Program} {w : World} {A : Around} {E : Value → Shared → Prop} {s : Shared} {h₀ : Heap} {L l : Addr} {m : Str → Option Value} {news : Led} {value slice : Expr} {vs : List Value} {x y : Int} {t u : Tok} {Q : Value → Shared → Prop} (F : Fr h₀ L s.heap m) (N : News h₀ L s.heap news) (hl : s.heap.IsList l vs.toArray) (hx : 0 ≤ x) (hy : 0 ≤ y) (hz : vs.length ≤ 1000000)
    (h : ∀ D h', Fr h₀ L h' m → News h₀ L h' ((D, listOf ((vs.drop x.toNat).take (y.toNat - x.toNat)).toArray 0) :: news) → (∀ p ∈ news, p.1 < D) → Q (.ref D) { s with heap := h' })
    (hs : subscripted slice false (.ref l) (.ref s.heap.objs.size) = operate [.ref s.heap.objs.size, .ref l] (getItem (.ref l) (.ref s.heap.objs.size))) (ht : ∀ r, letTemporaryGo value (.ref l) r = pure ()) :
    wpAny (model prog w) A (subscriptTail value slice (.ref l) (.ref s.heap.objs.size)) Q E { s with heap := s.heap.push { cls := .type "slice", data := .fields #[.int x t, .int y u, .none] } } :=
  kmk_slice_lit F N hl (IsPart.int x t) (IsPart.int y u) (pick_nn vs hx hy) h hs ht (by rw [List.size_toArray, sizeLine_eq]; omega)
theorem slice_n_ {prog : Program} {w : World} {A : Around} {E : Value → Shared → Prop} {s : Shared} {h₀ : Heap} {L l : Addr} {m : Str → Option Value} {news : Led} {value slice : Expr} {vs : List Value} {x : Int} {t : Tok} {Q : Value → Shared → Prop} (F : Fr h₀ L s.heap m) (N : News h₀ L s.heap news) (hl : s.heap.IsList l vs.toArray) (hx : 0 ≤ x) (hz : vs.length ≤ 1000000)
    (h : ∀ D h', Fr h₀ L h' m → News h₀ L h' ((D, listOf (vs.drop x.toNat).toArray 0) :: news) → (∀ p ∈ news, p.1 < D) → Q (.ref D) { s with heap := h' })
    (hs : subscripted slice false (.ref l) (.ref s.heap.objs.size) = operate [.ref s.heap.objs.size, .ref l] (getItem (.ref l) (.ref s.heap.objs.size))) (ht : ∀ r, letTemporaryGo value (.ref l) r = pure ()) :
    wpAny (model prog w) A (subscriptTail value slice (.ref l) (.ref s.heap.objs.size)) Q E { s with heap := s.heap.push { cls := .type "slice", data := .fields #[.int x t, .none, .none] } } :=
  kmk_slice_lit F N hl (IsPart.int x t) IsPart.none (pick_n_ vs hx) h hs ht (by rw [List.size_toArray, sizeLine_eq]; omega)
local macro_rules | `(tactic| walk_at "call builtin:len") => `(tactic| (k_here; (with_reducible show wpAny _ _ (call (Value.builtin _) [Value.ref _]) _ _ _); (refine' len_listV ?hl ?hz ?_; (case hl => is_list); (case hz => first | omega | (simp only [List.length_cons] at *; omega)); k_whole)))
local macro_rules | `(tactic| walk_at "subscriptTail Name Slice ref ref") => `(tactic| (k_here; (refine' slice_n_ ?F ?N ?hl ?hx ?hz ?_ ?hs ?ht; (case F => k_asm); (case N => k_asm); (case hl => is_list); (case hx => first | decide | omega); (case hz => first | omega | (simp only [List.length_cons] at *; omega)); (case hs => with_unfolding_all rfl); (case ht => intro _; with_unfolding_all rfl)); intro D' h' F' N' l1; (try k_lt l1); (try k_sweep)))
local macro_rules | `(tactic| walk_at "subscriptTail Name Slice ref ref") => `(tactic| (k_here; (refine' slice_nn ?F ?N ?hl ?hx ?hy ?hz ?_ ?hs ?ht; (case F => k_asm); (case N => k_asm); (case hl => is_list); (case hx => first | decide | omega); (case hy => first | decide | omega); (case hz => first | omega | (simp only [List.length_cons] at *; omega)); (case hs => with_unfolding_all rfl); (case ht => intro _; with_unfolding_all rfl)); intro D' h' F' N' l1; (try k_lt l1); (try k_sweep)))
local macro_rules | `(tactic| walk_at "subscriptTail") => `(tactic| (k_here; (with_reducible show wpAny _ _ (subscriptTail _ _ (Value.ref _) (Value.int _ _)) _ _ _); k_dflt (refine' item_listL ?hl ?h0 ?hf ?hx ?_ ?hs ?hg; (case hl => is_list); (case h0 => decide); (case hf => decide); (case hx => rfl); (case hs => with_unfolding_all rfl); (case hg => intro _; with_unfolding_all rfl); k_whole)))
def ListBy (has : Addr → Obj → Prop) (v : Value) (vs : List Value) : Prop := ∃ a n, v = .ref a ∧ has a (listOf vs.toArray n)
section
variable {p : Program} {loose : List Str} {w : World} {mean : ExcName → Option Value} {mg mb : Str → Option Value} {A : Around} {s : Shared} {Q E : Value → Shared → Prop}
def lmin : List Int → Int
  | [] => 0
  | t :: r => r.foldl (fun b x => if b > x then x else b) t
end
local macro_rules | `(tactic| walk_at "call ref") => `(tactic| (k_here; (refine' compared_spec ?hA ?X ?T ?hv ?hu ?_; (case hA => walk_at "m_room"); (case X => k_in); (case T => walk_at "m_top"); (case hv => walk_at "m_hv"); (case hu => walk_at "m_hv")); intro h' tk' m' k' e' hm'; (obtain ⟨F', N'⟩ := news_more (by k_asm) (by k_asm) e' NewIn.nil); clear e'; (try simp only [List.nil_append, List.cons_append] at N'); (try k_sweep)))
section
variable {p : Program} {loose : List Str} {w : World} {mean : ExcName → Option Value} {mg mb : Str → Option Value} {A : Around} {s : Shared} {Q E : Value → Shared → Prop}
def lmMap (a : Addr) (u : Option Value) (bv : Value) : Str → Option Value := fun y => if y = Str.ofString "value" then u else if y = Str.ofString "best" then some bv else if y = Str.ofString "values" then some (.ref a) else none
theorem lmMap_value (a : Addr) (u v : Option Value) (bv : Value) : (fun y => if y = Str.ofString "value" then u else lmMap a v bv y) = lmMap a u bv := by
  funext y
  unfold lmMap
  by_cases e1 : y = Str.ofString "value"
  · rw [if_pos e1, if_pos e1]
  · rw [if_neg e1, if_neg e1, if_neg e1]
theorem lmMap_best (a : Addr) (u v : Option Value) (b bv : Value) : (fun y => if y = Str.ofString "best" then some b else if y = Str.ofString "value" then u else lmMap a v bv y) = lmMap a u b := by
  funext y
  unfold lmMap
  by_cases e1 : y = Str.ofString "best"
  · rw [if_pos e1, if_neg (by rw [e1]; decide), if_pos e1]
  · rw [if_neg e1]
    by_cases e2 : y = Str.ofString "value"
    · rw [if_pos e2, if_pos e2]
    · rw [if_neg e2, if_neg e2, if_neg e2, if_neg e1, if_neg e1]
theorem lmin_take {t0 t : Int} {ts : List Int} {i : Nat} (h : ts[i]? = some t) : lmin (t0 :: ts.take (i + 1)) = if lmin (t0 :: ts.take i) > t then t else lmin (t0 :: ts.take i) := by
  rw [List.take_add_one, h]
  show (ts.take i ++ [t]).foldl _ t0 = _
  rw [List.foldl_append]
  rfl
theorem paired_get {α β : Type} {F : α → β → Prop} : ∀ {l₁ : List α} {l₂ : List β} {i : Nat} {a : α}, Paired F l₁ l₂ → l₁[i]? = some a → ∃ b, l₂[i]? = some b ∧ F a b
  | _, _, _, _, .nil, h => by simp at h
  | _, _, 0, _, .cons h _, e => by
    rw [List.getElem?_cons_zero] at e; cases e
    exact ⟨_, List.getElem?_cons_zero .., h⟩
  | _, _, i + 1, _, .cons _ t, e => by
    rw [List.getElem?_cons_succ] at e
    obtain ⟨b, hb, hf⟩ := paired_get t e
    exact ⟨b, by rw [List.getElem?_cons_succ]; exact hb, hf⟩
def lmax : List Int → Int
  | [] => 0
  | t :: r => r.foldl (fun b x => if b < x then x else b) t
theorem least_spec (hA : Room 5 A) (X : (hd.heap_39 w.params).In s.heap) (T : Top p loose mean mg mb s.heap) {v : Value} {vs : List Value} {ts : List Int} {has : Addr → Obj → Prop} (hl : ListBy (HH s.heap) v vs)
    (hhas : ∀ a o, has a o → HH s.heap a o) (hd : Paired (DecBy w.params has) vs ts) (hne : ts ≠ []) (hlen : vs.length ≤ 1000)
    (ret : ∀ h' tk r, Ext s.heap h' → DecBy w.params has r (lmin ts) → Q r { s with heap := h', toks := tk }) :
    wpAny (model PySem.Challenge.pw_og0152_01 w) A (call (.ref 182) [v]) Q E s := by
  obtain ⟨a, n, rfl, ha⟩ := hl
  unfold HH at ha
  cases hd with
  | nil => exact absurd rfl hne
  | @cons v0 t0 vs ts h1 h2 =>
  have hls : s.heap.IsList a (v0 :: vs).toArray := ⟨_, ha, rfl, n, rfl⟩
  have hv0 : DecBy w.params (HH s.heap) v0 t0 := h1.mono hhas
  have hpos : ((v0 :: vs).length : Int) ≠ 0 := by simp only [List.length_cons]; omega
  obtain ⟨hn, dp, fr, gd, un⟩ := A
  obtain rfl : hn = none := hA.handled
  refine wpAny_call ?_
  k_dflt (refine' enter (binds := [(Str.ofString "values", .ref a)]) ?k1 ?k2 ?k6 ?k7 ?k8 ?k9 ?kB ?_ ?c2 ?c3 ?c4 ?c5; walk_at "m_in")
  walk_at "m_pure"
  k_steps
  · exact absurd (by assumption) hpos
  rename Fr _ _ _ _ => F
  rename News _ _ _ _ => N
  rename Addr => D
  replace N : News _ _ _ [(D, listOf vs.toArray 0)] := N
  have hsl := N.isList (.head _)
  refine for_rule (fun i m nw => ∃ u bv, m = lmMap a u bv ∧ DecBy w.params has bv (lmin (t0 :: ts.take i)) ∧ nw = [(D, listOf vs.toArray 0)]) (Iter.list rfl hsl) F N ?_ ?_ ?_ ?_
  · intro b hb
    rw [List.mem_singleton.mp hb]
    exact .inr ⟨_, fun i m nw h => by obtain ⟨u, bv, _, _, rfl⟩ := h; exact .head _⟩
  · exact ⟨none, v0, funext fun y => by
      unfold lmMap
      by_cases e1 : y = Str.ofString "value"
      · subst e1; rfl
      · by_cases e2 : y = Str.ofString "best"
        · subst e2; rfl
        · rw [if_neg e1, if_neg e2, if_neg e2]
          show List.lookup y [(Str.ofString "values", Value.ref a)] = _
          by_cases e3 : y = Str.ofString "values"
          · subst e3; rfl
          · rw [if_neg e3, List.lookup_cons, beq_false_of_ne e3]; rfl, h1, rfl⟩
  · rintro i u m₁ nw₁ I oI s₁ hi hP ⟨uu, bv, rfl, hb, rfl⟩ F₁ N₁ hd₁
    obtain ⟨ti, hti, hu⟩ := paired_get h2 (by simpa using hP)
    have hut := hu.mono hhas
    have hbt := hb.mono hhas
    clear F N hsl
    obtain ⟨bx, bd, b1, b2, b3, b4, rfl, hbx, hbd⟩ := id hbt
    unfold HH at hbx hbd
    k_steps
    · rename (_ = sgn _) => hm
      rename Fr _ _ _ _ => F
      rename News _ _ _ _ => N
      refine TurnEnd.mk' F N hd₁ ⟨some u, u, lmMap_best _ _ _ _ _, ?_, rfl⟩
      rw [lmin_take hti, if_pos]
      · exact hu
      · unfold sgn at hm; (repeat' split at hm) <;> omega
    · rename (_ = sgn _) => hm
      rename Fr _ _ _ _ => F
      rename News _ _ _ _ => N
      refine TurnEnd.mk' F N hd₁ ⟨some u, _, lmMap_value _ _ _ _, ?_, rfl⟩
      rw [lmin_take hti, if_neg]
      · exact hb
      · unfold sgn at hm; (repeat' split at hm) <;> omega
  · rintro m' nw' h' tk ⟨uu, bv, rfl, hb, rfl⟩ F₁ N₁
    clear F N hsl
    have hlt : vs.toArray.size = ts.length := by simpa using h2.length
    rw [hlt, List.take_length] at hb
    dsimp only
    k_steps
    exact ret _ _ _ (Fr.keep (by assumption)) hb
theorem lmax_take {t0 t : Int} {ts : List Int} {i : Nat} (h : ts[i]? = some t) : lmax (t0 :: ts.take (i + 1)) = if lmax (t0 :: ts.take i) < t then t else lmax (t0 :: ts.take i) := by
  rw [List.take_add_one, h]
  show (ts.take i ++ [t]).foldl _ t0 = _
  rw [List.foldl_append]
  rfl
theorem greatest_spec (hA : Room 5 A) (X : (hd.heap_39 w.params).In s.heap) (T : Top p loose mean mg mb s.heap) {v : Value} {vs : List Value} {ts : List Int} {has : Addr → Obj → Prop} (hl : ListBy (HH s.heap) v vs)
    (hhas : ∀ a o, has a o → HH s.heap a o) (hd : Paired (DecBy w.params has) vs ts) (hne : ts ≠ []) (hlen : vs.length ≤ 1000)
    (ret : ∀ h' tk r, Ext s.heap h' → DecBy w.params has r (lmax ts) → Q r { s with heap := h', toks := tk }) :
    wpAny (model PySem.Challenge.pw_og0152_01 w) A (call (.ref 189) [v]) Q E s := by
  obtain ⟨a, n, rfl, ha⟩ := hl
  unfold HH at ha
  cases hd with
  | nil => exact absurd rfl hne
  | @cons v0 t0 vs ts h1 h2 =>
  have hls : s.heap.IsList a (v0 :: vs).toArray := ⟨_, ha, rfl, n, rfl⟩
  have hv0 : DecBy w.params (HH s.heap) v0 t0 := h1.mono hhas
  have hpos : ((v0 :: vs).length : Int) ≠ 0 := by simp only [List.length_cons]; omega
  obtain ⟨hn, dp, fr, gd, un⟩ := A
  obtain rfl : hn = none := hA.handled
  refine wpAny_call ?_
  k_dflt (refine' enter (binds := [(Str.ofString "values", .ref a)]) ?k1 ?k2 ?k6 ?k7 ?k8 ?k9 ?kB ?_ ?c2 ?c3 ?c4 ?c5; walk_at "m_in")
  walk_at "m_pure"
  k_steps
  · exact absurd (by assumption) hpos
  rename Fr _ _ _ _ => F
  rename News _ _ _ _ => N
  rename Addr => D
  replace N : News _ _ _ [(D, listOf vs.toArray 0)] := N
  have hsl := N.isList (.head _)
  refine for_rule (fun i m nw => ∃ u bv, m = lmMap a u bv ∧ DecBy w.params has bv (lmax (t0 :: ts.take i)) ∧ nw = [(D, listOf vs.toArray 0)]) (Iter.list rfl hsl) F N ?_ ?_ ?_ ?_
  · intro b hb
    rw [List.mem_singleton.mp hb]
    exact .inr ⟨_, fun i m nw h => by obtain ⟨u, bv, _, _, rfl⟩ := h; exact .head _⟩
  · exact ⟨none, v0, funext fun y => by
      unfold lmMap
      by_cases e1 : y = Str.ofString "value"
      · subst e1; rfl
      · by_cases e2 : y = Str.ofString "best"
        · subst e2; rfl
        · rw [if_neg e1, if_neg e2, if_neg e2]
          show List.lookup y [(Str.ofString "values", Value.ref a)] = _
          by_cases e3 : y = Str.ofString "values"
          · subst e3; rfl
          · rw [if_neg e3, List.lookup_cons, beq_false_of_ne e3]; rfl, h1, rfl⟩
  · rintro i u m₁ nw₁ I oI s₁ hi hP ⟨uu, bv, rfl, hb, rfl⟩ F₁ N₁ hd₁
    obtain ⟨ti, hti, hu⟩ := paired_get h2 (by simpa using hP)
    have hut := hu.mono hhas
    have hbt := hb.mono hhas
    clear F N hsl
    obtain ⟨bx, bd, b1, b2, b3, b4, rfl, hbx, hbd⟩ := id hbt
    unfold HH at hbx hbd
    k_steps
    · rename (_ = sgn _) => hm
      rename Fr _ _ _ _ => F
      rename News _ _ _ _ => N
      refine TurnEnd.mk' F N hd₁ ⟨some u, u, lmMap_best _ _ _ _ _, ?_, rfl⟩
      rw [lmax_take hti, if_pos]
      · exact hu
      · unfold sgn at hm; (repeat' split at hm) <;> omega
    · rename (_ = sgn _) => hm
      rename Fr _ _ _ _ => F
      rename News _ _ _ _ => N
      refine TurnEnd.mk' F N hd₁ ⟨some u, _, lmMap_value _ _ _ _, ?_, rfl⟩
      rw [lmax_take hti, if_neg]
      · exact hb
      · unfold sgn at hm; (repeat' split at hm) <;> omega
  · rintro m' nw' h' tk ⟨uu, bv, rfl, hb, rfl⟩ F₁ N₁
    clear F N hsl
    have hlt : vs.toArray.size = ts.length := by simpa using h2.length
    rw [hlt, List.take_length] at hb
    dsimp only
    k_steps
    exact ret _ _ _ (Fr.keep (by assumption)) hb
end
/-! part Pure -/
abbrev glD (P : Params) (vt vx vy vw vh : Value) (t1 t2 t3 t4 t5 : Tok) : Obj :=
  dictOf [⟨PyData.keyHash P (Str.ofString "text"), .str (Str.ofString "text") t1, vt⟩, ⟨PyData.keyHash P (Str.ofString "x"), .str (Str.ofString "x") t2, vx⟩, ⟨PyData.keyHash P (Str.ofString "y"), .str (Str.ofString "y") t3, vy⟩, ⟨PyData.keyHash P (Str.ofString "width"), .str (Str.ofString "width") t4, vw⟩, ⟨PyData.keyHash P (Str.ofString "size"), .str (Str.ofString "size") t5, vh⟩] 5
/-- a glyph's place and size, in tenths -/
structure Gl where
  x : Int
  y : Int
  w : Int
  h : Int
def GlyphBy (P : Params) (has : Addr → Obj → Prop) (v : Value) (g : Gl) : Prop :=
  ∃ a d vt vx vy vw vh t1 t2 t3 t4 t5, v = .ref a ∧ has a (instObj 235 d) ∧ has d (glD P vt vx vy vw vh t1 t2 t3 t4 t5) ∧ DecBy P has vx g.x ∧ DecBy P has vy g.y ∧ DecBy P has vw g.w ∧ DecBy P has vh g.h
theorem GlyphBy.mono {P : Params} {has has' : Addr → Obj → Prop} {v : Value} {g : Gl} (k : ∀ a o, has a o → has' a o) (h : GlyphBy P has v g) : GlyphBy P has' v g :=
  let ⟨a, d, vt, vx, vy, vw, vh, t1, t2, t3, t4, t5, e, h1, h2, hx, hy, hw, hh⟩ := h; ⟨a, d, vt, vx, vy, vw, vh, t1, t2, t3, t4, t5, e, k _ _ h1, k _ _ h2, hx.mono k, hy.mono k, hw.mono k, hh.mono k⟩
def HU (has : Addr → Obj → Prop) (tl : Led) (a : Addr) (o : Obj) : Prop := has a o ∨ (a, o) ∈ tl
theorem HU.left {has : Addr → Obj → Prop} {tl : Led} : ∀ a o, has a o → HU has tl a o := fun _ _ h => .inl h
theorem HU.right {has : Addr → Obj → Prop} {tl : Led} : ∀ a o, ML tl a o → HU has tl a o := fun _ _ h => .inr h
theorem HU.grow {has : Addr → Obj → Prop} {tl tl' : Led} (k : ∀ q ∈ tl, q ∈ tl') : ∀ a o, HU has tl a o → HU has tl' a o := fun _ _ h => h.elim .inl fun m => .inr (k _ m)
theorem Paired.mono' {α β : Type} {F F' : α → β → Prop} (k : ∀ a b, F a b → F' a b) {l₁ : List α} {l₂ : List β} (h : Paired F l₁ l₂) : Paired F' l₁ l₂ := h.mono k
theorem Paired.append {α β : Type} {F : α → β → Prop} : ∀ {a c : List α} {b d : List β}, Paired F a b → Paired F c d → Paired F (a ++ c) (b ++ d)
  | _, _, _, _, .nil, h => h
  | _, _, _, _, .cons h t, h' => .cons h (Paired.append t h')
theorem has_up {has : Addr → Obj → Prop} {h₀ h : Heap} {L : Addr} {m : Str → Option Value} (hb : ∀ a o, has a o → HH h₀ a o) (F : Fr h₀ L h m) : ∀ a o, has a o → HH h a o := fun a o q => F.keep _ _ (hb _ _ q)
theorem HU.at' {has : Addr → Obj → Prop} {h₀ h : Heap} {L : Addr} {m : Str → Option Value} {nw tl : Led} (hb : ∀ a o, has a o → HH h₀ a o) (F : Fr h₀ L h m) (N : News h₀ L h nw) (k : ∀ q ∈ tl, q ∈ nw) : ∀ a o, HU has tl a o → HH h a o := fun a o q => q.elim (fun e => F.keep _ _ (hb _ _ e)) fun e => (N _ (k _ e)).1
structure Box where
  l : Int
  b : Int
  r : Int
  t : Int
def BoxBy (P : Params) (has : Addr → Obj → Prop) (v : Value) (b : Box) : Prop := ∃ a n v1 v2 v3 v4, v = .ref a ∧ has a (tupOf #[v1, v2, v3, v4] n) ∧ DecBy P has v1 b.l ∧ DecBy P has v2 b.b ∧ DecBy P has v3 b.r ∧ DecBy P has v4 b.t
theorem BoxBy.mono {P : Params} {has has' : Addr → Obj → Prop} {v : Value} {b : Box} (k : ∀ a o, has a o → has' a o) (h : BoxBy P has v b) : BoxBy P has' v b :=
  let ⟨a, n, v1, v2, v3, v4, e, h1, d1, d2, d3, d4⟩ := h; ⟨a, n, v1, v2, v3, v4, e, k _ _ h1, d1.mono k, d2.mono k, d3.mono k, d4.mono k⟩
def boxOf (gs : List Gl) : Box where
  l := lmin (gs.map Gl.x ++ gs.map fun g => g.x + g.w)
  b := lmin (gs.map Gl.y ++ gs.map fun g => g.y + g.h)
  r := lmax (gs.map Gl.x ++ gs.map fun g => g.x + g.w)
  t := lmax (gs.map Gl.y ++ gs.map fun g => g.y + g.h)
theorem map_take_succ {α β : Type} (f : α → β) {l : List α} {i : Nat} {a : α} (h : l[i]? = some a) : (l.take (i + 1)).map f = (l.take i).map f ++ [f a] := by
  rw [List.take_add_one, h, List.map_append]; rfl
section
variable {w : World} {A : Around} {s : Shared}
/-- the end of an element that is told by a relation of what stood and what it made -/
def PEnd (h₀ : Heap) (L : Addr) (m : Str → Option Value) (C D I : Addr) (oD oI : Obj) (nw₁ : Led) (Rl : Led → Value → Prop) (s₁ : Shared) (y : Value) (s₄ : Shared) : Prop :=
  ∃ h' tk tl oC' mC', s₄ = { s₁ with heap := h', toks := tk } ∧ Fr h₀ L h' m ∧ News h₀ L h' ((C, oC') :: (D, oD) :: (I, oI) :: (tl ++ nw₁)) ∧ NsO oC' mC' ∧ Off C D I tl ∧ (∀ q ∈ tl, ∀ r ∈ nw₁, q.1 ≠ r.1) ∧ Rl tl y
theorem PEnd.mk' {h₀ h' : Heap} {L : Addr} {m : Str → Option Value} {C D I : Addr} {oD oI oC' : Obj} {mC' : Str → Option Value} {nw₁ : Led} {Rl : Led → Value → Prop} {s₁ : Shared} {y : Value} {tk : Nat} (tl : Led) (F : Fr h₀ L h' m) (N : News h₀ L h' ((C, oC') :: (D, oD) :: (I, oI) :: (tl ++ nw₁))) (n : NsO oC' mC') (o : Off C D I tl) (oo : ∀ q ∈ tl, ∀ r ∈ nw₁, q.1 ≠ r.1) (j : Rl tl y) :
    PEnd h₀ L m C D I oD oI nw₁ Rl s₁ y { s₁ with heap := h', toks := tk } := ⟨h', tk, tl, oC', mC', rfl, F, N, n, o, oo, j⟩
theorem PEnd.same {h₀ h' : Heap} {L : Addr} {m : Str → Option Value} {C D I : Addr} {oD oI oC' : Obj} {mC' : Str → Option Value} {nw₁ : Led} {Rl : Led → Value → Prop} {s₁ : Shared} {y : Value} {tk : Nat} (F : Fr h₀ L h' m) (N : News h₀ L h' ((C, oC') :: (D, oD) :: (I, oI) :: nw₁)) (n : NsO oC' mC') (j : Rl [] y) :
    PEnd h₀ L m C D I oD oI nw₁ Rl s₁ y { s₁ with heap := h', toks := tk } := ⟨h', tk, [], oC', mC', rfl, F, N, n, Off.nil, (fun _ h => nomatch h), j⟩
theorem PEnd.call {h₀ h' : Heap} {L : Addr} {m : Str → Option Value} {C D I : Addr} {oD oI oC' : Obj} {mC' : Str → Option Value} {nw₁ : Led} {Rl : Led → Value → Prop} {s₁ : Shared} {y : Value} {tk : Nat} {tl : Led} (F : Fr h₀ L h' m) (N : News h₀ L h' (tl ++ (C, oC') :: (D, oD) :: (I, oI) :: nw₁)) (n : NsO oC' mC')
    (O : ∀ q ∈ tl, ∀ r ∈ ((C, oC') :: (D, oD) :: (I, oI) :: nw₁), q.1 ≠ r.1) (j : Rl tl y) :
    PEnd h₀ L m C D I oD oI nw₁ Rl s₁ y { s₁ with heap := h', toks := tk } := ⟨h', tk, tl, oC', mC', rfl, F, news_perm N perm3, n, off_tl O, (fun q hq r hr => O q hq r (.tail _ (.tail _ (.tail _ hr)))), j⟩
theorem comp_pureO {β : Type} (Rel : (Addr → Obj → Prop) → Value → β → Prop) (mono : ∀ {has has' : Addr → Obj → Prop} {v b}, (∀ a o, has a o → has' a o) → Rel has v b → Rel has' v b) (has : Addr → Obj → Prop) (bs : List β)
    {h₀ : Heap} {m : Str → Option Value} {nw : Led} {env : Env} {E : Value → Shared → Prop} {scope : Scope} {cl : List (Str × Addr)} {use : Option (Value → Sem Unit)} {Q : Value → Shared → Prop} {xv : Value} {src : List Addr} {n : Nat} {P : Nat → Value → Prop} {St : Addr → Nat → Heap → Prop}
    {elt target iter : Expr} {pos : Pos}
    (hcell : ∀ y ∈ scope.names, y.2 ≠ .cell) (hkind : scope.kind = .function)
    (it : Iter w A s xv src n P St) (F : Fr h₀ env.locals s.heap m) (N : News h₀ env.locals s.heap nw)
    (hsrc : ∀ b ∈ src, (∃ o, h₀.get? b = some o) ∨ ∃ o, (b, o) ∈ nw)
    (hn : n = bs.length) (hlen : bs.length ≤ 1000000)
    (turn : ∀ C D I i u b nw₁ oC mC oD oI s₁, Three h₀ env.locals C D I → P i u → bs[i]? = some b → Fr h₀ env.locals s₁.heap m → News h₀ env.locals s₁.heap ((C, oC) :: (D, oD) :: (I, oI) :: nw₁) → NsO oC mC → Off C D I nw₁ → (∀ q ∈ nw, q ∈ nw₁) →
      wpAny (model PySem.Challenge.pw_og0152_01 w) A (assign target (compEnvC scope cl C env) u) (fun _ s₂ => wpAny (model PySem.Challenge.pw_og0152_01 w) A (eval elt (compEnvC scope cl C env)) (PEnd h₀ env.locals m C D I oD oI nw₁ (fun tl y => Rel (HU has tl) y b) s₁) (fun _ _ => False) s₂) (fun _ _ => False) s₁)
    (fin : ∀ C D I h' tk tl ys mC c, Three h₀ env.locals C D I → Fr h₀ env.locals h' m → News h₀ env.locals h' ((D, listOf ys.toArray c) :: (tl ++ nw)) → h'.Ns C mC → Off C D I (tl ++ nw) → (∀ q ∈ tl, ∀ r ∈ nw, q.1 ≠ r.1) → Paired (Rel (HU has tl)) ys bs → compPost (model PySem.Challenge.pw_og0152_01 w) A E use Q (.ref D) C (.ok .next) { s with heap := h', toks := tk }) :
    CompGo w A E env scope cl (.ListComp elt [⟨target, iter, [], 0⟩] scope pos) use Q xv s := by
  refine comp_rule (fun i nw' ys => ∃ tl, nw' = tl ++ nw ∧ (∀ q ∈ tl, ∀ r ∈ nw, q.1 ≠ r.1) ∧ Paired (Rel (HU has tl)) ys (bs.take i)) hcell hkind it F N ?_ ⟨[], rfl, (fun _ h => nomatch h), by rw [List.take_zero]; exact .nil⟩ ?_ ?_ ?_
  · intro b hb
    rcases hsrc b hb with h | ⟨o, h⟩
    · exact .inl h
    · exact .inr ⟨o, fun i nw' ys ⟨tl, e, _⟩ => by rw [e]; exact List.mem_append.mpr (.inr h)⟩
  · rintro i nw' ys ⟨tl, _, _, h⟩
    have := h.length
    rw [this, List.length_take]
    omega
  · rintro C D I i u ys nw₁ oC mC oD oI s₁ TT hi hP ⟨tl, rfl, ho, hp⟩ F₁ N₁ nC off
    have hb : ∃ b, bs[i]? = some b := ⟨bs[i]'(by omega), by simp⟩
    obtain ⟨b, hb⟩ := hb
    refine wpAny_mono (turn C D I i u b _ oC mC oD oI s₁ TT hP hb F₁ N₁ nC off fun q hq => List.mem_append.mpr (.inr hq)) (fun _ s₂ h₂ => tests_nil ?_) fun _ _ f => f.elim
    rw [if_pos rfl]
    refine wpAny_mono h₂ (fun y s₄ h₄ => ?_) fun _ _ f => f.elim
    obtain ⟨h', tk, tl', oC', mC', rfl, F', N', n', off', oo', hR⟩ := h₄
    refine EltEnd.mk' F' N' n' (off'.append off) ⟨tl' ++ tl, (List.append_assoc ..).symm, (fun q hq r hr => (List.mem_append.mp hq).elim (fun h => oo' q h r (List.mem_append.mpr (.inr hr))) fun h => ho q h r hr), ?_⟩
    have e : bs.take (i + 1) = bs.take i ++ [b] := by rw [List.take_add_one, hb]; rfl
    rw [e]
    exact Paired.snoc (hp.mono fun _ _ h => mono (HU.grow fun q hq => List.mem_append.mpr (.inr hq)) h) (mono (HU.grow fun q hq => List.mem_append.mpr (.inl hq)) hR)
  · rintro C D I h' tk nw' ys mC c TT F' N' n' off ⟨tl, rfl, ho, hp⟩
    rw [hn, List.take_length] at hp
    exact fin C D I h' tk tl ys mC c TT F' N' n' off ho hp
theorem comp_pure {β : Type} (Rel : (Addr → Obj → Prop) → Value → β → Prop) (mono : ∀ {has has' : Addr → Obj → Prop} {v b}, (∀ a o, has a o → has' a o) → Rel has v b → Rel has' v b) (has : Addr → Obj → Prop) (bs : List β)
    {h₀ : Heap} {m : Str → Option Value} {nw : Led} {env : Env} {E : Value → Shared → Prop} {scope : Scope} {cl : List (Str × Addr)} {use : Option (Value → Sem Unit)} {Q : Value → Shared → Prop} {xv : Value} {src : List Addr} {n : Nat} {P : Nat → Value → Prop} {St : Addr → Nat → Heap → Prop}
    {elt target iter : Expr} {pos : Pos}
    (hcell : ∀ y ∈ scope.names, y.2 ≠ .cell) (hkind : scope.kind = .function)
    (it : Iter w A s xv src n P St) (F : Fr h₀ env.locals s.heap m) (N : News h₀ env.locals s.heap nw)
    (hsrc : ∀ b ∈ src, (∃ o, h₀.get? b = some o) ∨ ∃ o, (b, o) ∈ nw)
    (hn : n = bs.length) (hlen : bs.length ≤ 1000000)
    (turn : ∀ C D I i u b nw₁ oC mC oD oI s₁, Three h₀ env.locals C D I → P i u → bs[i]? = some b → Fr h₀ env.locals s₁.heap m → News h₀ env.locals s₁.heap ((C, oC) :: (D, oD) :: (I, oI) :: nw₁) → NsO oC mC → Off C D I nw₁ → (∀ q ∈ nw, q ∈ nw₁) →
      wpAny (model PySem.Challenge.pw_og0152_01 w) A (assign target (compEnvC scope cl C env) u) (fun _ s₂ => wpAny (model PySem.Challenge.pw_og0152_01 w) A (eval elt (compEnvC scope cl C env)) (PEnd h₀ env.locals m C D I oD oI nw₁ (fun tl y => Rel (HU has tl) y b) s₁) (fun _ _ => False) s₂) (fun _ _ => False) s₁)
    (fin : ∀ C D I h' tk tl ys mC c, Three h₀ env.locals C D I → Fr h₀ env.locals h' m → News h₀ env.locals h' ((D, listOf ys.toArray c) :: (tl ++ nw)) → h'.Ns C mC → Off C D I (tl ++ nw) → Paired (Rel (HU has tl)) ys bs → compPost (model PySem.Challenge.pw_og0152_01 w) A E use Q (.ref D) C (.ok .next) { s with heap := h', toks := tk }) :
    CompGo w A E env scope cl (.ListComp elt [⟨target, iter, [], 0⟩] scope pos) use Q xv s :=
  comp_pureO Rel mono has bs hcell hkind it F N hsrc hn hlen turn fun C D I h' tk tl ys mC c TT F' N' n' off _ hp => fin C D I h' tk tl ys mC c TT F' N' n' off hp
theorem src_base {h₀ : Heap} {nw : Led} {a : Addr} {o : Obj} (h : h₀.get? a = some o) : ∀ b ∈ [a], (∃ o, h₀.get? b = some o) ∨ ∃ o, (b, o) ∈ nw := fun b hb => by rw [List.mem_singleton.mp hb]; exact .inl ⟨o, h⟩
theorem src_news {h₀ : Heap} {nw : Led} {a : Addr} {o : Obj} (h : (a, o) ∈ nw) : ∀ b ∈ [a], (∃ o, h₀.get? b = some o) ∨ ∃ o, (b, o) ∈ nw := fun b hb => by rw [List.mem_singleton.mp hb]; exact .inr ⟨o, h⟩
/-- the end of an element that makes nothing that is kept -/
def SEnd (h₀ : Heap) (L : Addr) (m : Str → Option Value) (C D I : Addr) (oD oI : Obj) (nw : Led) (Rl : Value → Prop) (s₁ : Shared) (y : Value) (s₄ : Shared) : Prop :=
  ∃ h' tk oC' mC', s₄ = { s₁ with heap := h', toks := tk } ∧ Fr h₀ L h' m ∧ News h₀ L h' ((C, oC') :: (D, oD) :: (I, oI) :: nw) ∧ NsO oC' mC' ∧ Rl y
theorem SEnd.mk' {h₀ h' : Heap} {L : Addr} {m : Str → Option Value} {C D I : Addr} {oD oI oC' : Obj} {mC' : Str → Option Value} {nw : Led} {Rl : Value → Prop} {s₁ : Shared} {y : Value} {tk : Nat} (F : Fr h₀ L h' m) (N : News h₀ L h' ((C, oC') :: (D, oD) :: (I, oI) :: nw)) (n : NsO oC' mC') (j : Rl y) :
    SEnd h₀ L m C D I oD oI nw Rl s₁ y { s₁ with heap := h', toks := tk } := ⟨h', tk, oC', mC', rfl, F, N, n, j⟩
theorem comp_same {β : Type} (Rel : Value → β → Prop) (bs : List β)
    {h₀ : Heap} {m : Str → Option Value} {nw : Led} {env : Env} {E : Value → Shared → Prop} {scope : Scope} {cl : List (Str × Addr)} {use : Option (Value → Sem Unit)} {Q : Value → Shared → Prop} {xv : Value} {src : List Addr} {n : Nat} {P : Nat → Value → Prop} {St : Addr → Nat → Heap → Prop}
    {elt target iter : Expr} {pos : Pos}
    (hcell : ∀ y ∈ scope.names, y.2 ≠ .cell) (hkind : scope.kind = .function)
    (it : Iter w A s xv src n P St) (F : Fr h₀ env.locals s.heap m) (N : News h₀ env.locals s.heap nw)
    (hsrc : ∀ b ∈ src, (∃ o, h₀.get? b = some o) ∨ ∃ o, (b, o) ∈ nw)
    (hn : n = bs.length) (hlen : bs.length ≤ 1000000)
    (turn : ∀ C D I i u b oC mC oD oI s₁, Three h₀ env.locals C D I → P i u → bs[i]? = some b → Fr h₀ env.locals s₁.heap m → News h₀ env.locals s₁.heap ((C, oC) :: (D, oD) :: (I, oI) :: nw) → NsO oC mC → Off C D I nw →
      wpAny (model PySem.Challenge.pw_og0152_01 w) A (assign target (compEnvC scope cl C env) u) (fun _ s₂ => wpAny (model PySem.Challenge.pw_og0152_01 w) A (eval elt (compEnvC scope cl C env)) (SEnd h₀ env.locals m C D I oD oI nw (fun y => Rel y b) s₁) (fun _ _ => False) s₂) (fun _ _ => False) s₁)
    (fin : ∀ C D I h' tk ys mC c, Three h₀ env.locals C D I → Fr h₀ env.locals h' m → News h₀ env.locals h' ((D, listOf ys.toArray c) :: nw) → h'.Ns C mC → Off C D I nw → Paired Rel ys bs → compPost (model PySem.Challenge.pw_og0152_01 w) A E use Q (.ref D) C (.ok .next) { s with heap := h', toks := tk }) :
    CompGo w A E env scope cl (.ListComp elt [⟨target, iter, [], 0⟩] scope pos) use Q xv s := by
  refine comp_rule (fun i nw' ys => nw' = nw ∧ Paired Rel ys (bs.take i)) hcell hkind it F N ?_ ⟨rfl, by rw [List.take_zero]; exact .nil⟩ ?_ ?_ ?_
  · intro b hb
    rcases hsrc b hb with h | ⟨o, h⟩
    · exact .inl h
    · exact .inr ⟨o, fun i nw' ys ⟨e, _⟩ => by rw [e]; exact h⟩
  · rintro i nw' ys ⟨_, h⟩
    have := h.length
    rw [this, List.length_take]
    omega
  · rintro C D I i u ys nw₁ oC mC oD oI s₁ TT hi hP ⟨rfl, hp⟩ F₁ N₁ nC off
    have hb : ∃ b, bs[i]? = some b := ⟨bs[i]'(by omega), by simp⟩
    obtain ⟨b, hb⟩ := hb
    refine wpAny_mono (turn C D I i u b oC mC oD oI s₁ TT hP hb F₁ N₁ nC off) (fun _ s₂ h₂ => tests_nil ?_) fun _ _ f => f.elim
    rw [if_pos rfl]
    refine wpAny_mono h₂ (fun y s₄ h₄ => ?_) fun _ _ f => f.elim
    obtain ⟨h', tk, oC', mC', rfl, F', N', n', hR⟩ := h₄
    refine EltEnd.mk' F' N' n' off ⟨rfl, ?_⟩
    have e : bs.take (i + 1) = bs.take i ++ [b] := by rw [List.take_add_one, hb]; rfl
    rw [e]
    exact Paired.snoc hp hR
  · rintro C D I h' tk nw' ys mC c TT F' N' n' off ⟨rfl, hp⟩
    rw [hn, List.take_length] at hp
    exact fin C D I h' tk ys mC c TT F' N' n' off hp
/-- the turn of a block with one name -/
theorem pure_name {h₀ : Heap} {L : Addr} {m : Str → Option Value} {nw₁ : Led} {scope : Scope} {cl : List (Str × Addr)} {env : Env} {C D I : Addr} {oC oD oI : Obj} {mC : Str → Option Value} {x : Str} {px : Pos} {u : Value} {elt : Expr} {G : Value → Shared → Prop}
    (F : Fr h₀ L s.heap m) (N : News h₀ L s.heap ((C, oC) :: (D, oD) :: (I, oI) :: nw₁)) (hC : NsO oC mC) (off : Off C D I nw₁) (TT : Three h₀ L C D I)
    (hk : (compEnvC scope cl C env).kindOf x = some .local) (hp : ((compEnvC scope cl C env).scope.kind == .class || ((compEnvC scope cl C env).scope.kind == .module && (compEnvC scope cl C env).locals != (compEnvC scope cl C env).globals)) = false)
    (k : ∀ oC' h', Fr h₀ L h' m → News h₀ L h' ((C, oC') :: (D, oD) :: (I, oI) :: nw₁) → NsO oC' (fun y => if y = x then some u else mC y) → wpAny (model PySem.Challenge.pw_og0152_01 w) A (eval elt (compEnvC scope cl C env)) G (fun _ _ => False) { s with heap := h', toks := s.toks + 1 }) :
    wpAny (model PySem.Challenge.pw_og0152_01 w) A (assign (.Name x px) (compEnvC scope cl C env) u) (fun _ s₂ => wpAny (model PySem.Challenge.pw_og0152_01 w) A (eval elt (compEnvC scope cl C env)) G (fun _ _ => False) s₂) (fun _ _ => False) s := by
  refine asg_name F N hC (fun q hq => ?_) TT.CL TT.C0 rfl hk hp fun oC' h' F' N' n' => k oC' h' F' N' n'
  rcases List.mem_cons.mp hq with rfl | hq
  · exact Ne.symm TT.CD
  rcases List.mem_cons.mp hq with rfl | hq
  · exact Ne.symm TT.CI
  · exact (off q hq).1
end
theorem mem_appR {α : Type} {x : α} {a b : List α} (h : x ∈ b) : x ∈ a ++ b := List.mem_append.mpr (.inr h)
theorem mem_appL {α : Type} {x : α} {a b : List α} (h : x ∈ a) : x ∈ a ++ b := List.mem_append.mpr (.inl h)
theorem mem_appR' {α : Type} {x : α} {a b : List α} (h : x ∈ b) : List.Mem x (a ++ b) := List.mem_append.mpr (.inr h)
theorem mem_appL' {α : Type} {x : α} {a b : List α} (h : x ∈ a) : List.Mem x (a ++ b) := List.mem_append.mpr (.inl h)
local macro_rules | `(tactic| k_mem) => `(tactic| first | (with_reducible assumption) | ((with_reducible refine mem_appR ?_); k_mem) | ((with_reducible refine mem_appL ?_); k_mem) | ((with_reducible refine mem_appR' ?_); k_mem) | ((with_reducible refine mem_appL' ?_); k_mem))
/-! part CellsP -/
section
variable {p : Program} {loose : List Str} {w : World} {mean : ExcName → Option Value} {mg mb : Str → Option Value} {A : Around} {s : Shared}
/-- into a def some of whose names are captured -/
theorem enterC {R : Result → Shared → Prop} {name qual : Str} {params : Arguments} {body : List Stmt} {scope : Scope} {dV kV doc pm cdv ct oc : Value} {an od : Option Addr} {osl : Array (Option Value)} {f : Addr} {args : Args} {binds : List (Str × Value)}
    (X : (hd.heap_39 w.params).In s.heap) (T : Top p loose mean mg mb s.heap)
    (ho : (hd.heap_39 w.params).lookup f = some ⟨oc, od, .func (fnOf name qual params body scope dV kV doc pm an cdv ct), osl⟩) (hcd : codeIn (hd.heap_39 w.params) cdv qual = true) (hroom : A.depth < recursionLimit)
    (hbind : BindsTo s (fnOf name qual params body scope dV kV doc pm an cdv ct) args binds) (hkind : (binds.all fun y => scope.names.lookup y.1 == some .local || scope.names.lookup y.1 == some .cell) = true)
    (hnd : ((cellsFrom 0 scope.names []).map (·.1)).Nodup)
    (h : ∀ L' h₁ tk cells, Fr s.heap L' h₁ (bindL (envOfC qual scope L' f cdv).kindOf binds fun _ => none) → News s.heap L' h₁ cells →
      CellsAre (bindC (envOfC qual scope L' f cdv).kindOf binds fun _ => none) (cellsFrom (L' + 1) scope.names []) cells → (hd.heap_39 w.params).In s.heap → Top p loose mean mg mb s.heap →
      wpAny (model PySem.Challenge.pw_og0152_01 w) (A.deeper (envOfC qual scope L' f cdv)) (execs body (envOfC qual scope L' f cdv))
        (fun fl s' => R (.ok (.ret (match fl with | .ret v => v | _ => .none))) s') (fun _ _ => False)
        { s with heap := h₁, toks := tk })
    (hco : scope.isCoroutine = false) (hgen : scope.isGenerator = false) (hk : scope.kind = .function) : codeAny (model PySem.Challenge.pw_og0152_01 w) A (.call (.ref f) args) R s := by
  refine codeAny_call_function (fd := fnOf name qual params body scope dV kV doc pm an cdv ct) hroom (X _ _ ho) rfl hco hgen rfl (codeRec_of X hcd) (hbind _ _ _ _ ?_)
  refine wpAny_newFunctionEnv_cells hk (kindsX hkind _) fun env' he s' x => ?_
  subst he
  refine ⟨T.nolimit.keeps x.toInCall.keep, codeAny_func ?_⟩
  obtain ⟨h₁, tk, rfl, _⟩ := x.done
  obtain ⟨cells, NC, Y⟩ := Cl.news (h₀ := s.heap) (Nat.le_refl _) fun n c hm => ⟨x.cell n c (lookup_of_mem_nodup (cellsFrom_names scope.names 0 (s.heap.objs.size + 1) [] [] rfl ▸ hnd) hm), x.above n c hm⟩
  exact wpAny_mono (h s.heap.objs.size h₁ tk cells ⟨x.toInCall.ns, x.toInCall.keep, Nat.le_refl _⟩ NC Y X T) (fun _ _ y => y) (fun _ _ y => y.elim)
end
section
variable {w : World} {A : Around} {s : Shared}
theorem comp_openC {h₀ : Heap} {m : Str → Option Value} {nw : Led} {env : Env} {E : Value → Shared → Prop} {scope : Scope} {cl : List (Str × Addr)} {e : Expr} {use : Option (Value → Sem Unit)} {Q : Value → Shared → Prop} {xv : Value} {src : List Addr} {n : Nat} {P : Nat → Value → Prop} {St : Addr → Nat → Heap → Prop}
    {elt target iter : Expr} {ifs : List Expr} {rest : List Comprehension} {pos : Pos} {x : Str} {pre post : List (Str × NameKind)} (he : e = .ListComp elt (⟨target, iter, ifs, 0⟩ :: rest) scope pos)
    (hnm : scope.names = pre ++ (x, .cell) :: post) (h1 : ∀ y ∈ pre, y.2 ≠ .cell) (h2 : ∀ y ∈ post, y.2 ≠ .cell) (hkind : scope.kind = .function)
    (it : Iter w A s xv src n P St) (F : Fr h₀ env.locals s.heap m) (N : News h₀ env.locals s.heap nw)
    (go : ∀ C D I c (s' : Shared) h' tk mC, s' = { s with heap := h', toks := tk } → Three h₀ env.locals C D I → c ≠ C ∧ c ≠ D ∧ c ≠ I → c ≠ env.locals → h₀.get? c = none → (∀ q ∈ nw, q.1 ≠ c) → c ∉ src → Fr h₀ env.locals h' m → News h₀ env.locals h' ((c, { cls := .type "cell", data := .cell none }) :: nw) → Off C D I ((c, { cls := .type "cell", data := .cell none }) :: nw) → h'.PlainList D #[] → h'.Ns C mC → St I 0 h' → I ∉ src → C ∉ src → D ∉ src →
      codeAny (model PySem.Challenge.pw_og0152_01 w) A (.compLoop e 0 (.ref I) (.ref D) (compEnvC scope ((x, c) :: cl) C env)) (compPost (model PySem.Challenge.pw_og0152_01 w) A E use Q (.ref D) C) s') :
    CompGo w A E env scope cl e use Q xv s := by
  unfold CompGo
  refine it.start _ _ fun oI hfree hst => ?_
  have hb := it.below
  have hNlt : ∀ q ∈ nw, q.1 < s.heap.objs.size := fun q hq => Heap.lt_size (N q hq).1
  have hLlt : env.locals < s.heap.objs.size := F.ns.lt
  have h0lt : ∀ b o, h₀.get? b = some o → b < s.heap.objs.size := fun b o e => Heap.lt_size (F.keep b o e)
  have hD : (s.heap.push oI).objs.size = s.heap.objs.size + 1 := Heap.size_push ..
  refine wpAny_newObj_type ?_
  dsimp only
  generalize hH : (s.heap.push oI).push { cls := .type "list", dict := none, data := .seq ([] : List Value).toArray } = H
  have hHs : H.objs.size = s.heap.objs.size + 1 + 1 := by rw [← hH, Heap.size_push, hD]
  have lay : ∀ (pre' : List (Str × NameKind)) (n : Nat) (acc : List (Str × Addr)) (h : Heap), (∀ y ∈ pre', y.2 ≠ .cell) → cellsFrom n (pre' ++ (x, .cell) :: post) acc = (x, n) :: acc ∧ pushCells h (pre' ++ (x, .cell) :: post) = h.push { cls := .type "cell", data := .cell none } := by
    have lay0 : ∀ (l : List (Str × NameKind)) (n : Nat) (acc : List (Str × Addr)) (h : Heap), (∀ y ∈ l, y.2 ≠ .cell) → cellsFrom n l acc = acc ∧ pushCells h l = h := by
      intro l
      induction l with
      | nil => intro n acc h _; exact ⟨rfl, rfl⟩
      | cons y r ih =>
        intro n acc h hy
        obtain ⟨nm, kd⟩ := y
        have hk : (kd == NameKind.cell) = false := by simpa using hy _ (.head _)
        unfold cellsFrom pushCells
        rw [hk]
        exact ih n acc h fun z hz => hy z (.tail _ hz)
    intro pre'
    induction pre' with
    | nil =>
      intro n acc h _
      show cellsFrom (n + 1) post ((x, n) :: acc) = _ ∧ pushCells (h.push _) post = _
      exact lay0 post (n + 1) _ _ h2
    | cons y r ih =>
      intro n acc h hy
      obtain ⟨nm, kd⟩ := y
      have hk : (kd == NameKind.cell) = false := by simpa using hy _ (.head _)
      rw [List.cons_append]
      unfold cellsFrom pushCells
      rw [hk]
      exact ih n acc h fun z hz => hy z (.tail _ hz)
  simp only [newFunctionEnv, Option.isSome_some, if_true]
  refine wpAny_bind (wpAny_alloc ?_)
  refine wpAny_bind (wpAny_layCells _ (fun name kind cells => by cases hkc : kind == NameKind.cell <;> simp [hkc]) _ _ _ _ ?_)
  rw [hnm, (lay pre _ _ H h1).1, (lay pre 0 [] _ h1).2]
  dsimp only
  have hC : (H.push { cls := .type "dict", data := .dict #[] }).objs.size = s.heap.objs.size + 1 + 1 + 1 := by rw [Heap.size_push, hHs]
  refine wpAny_bind ?_
  rw [List.forIn_nil]
  refine wpAny_pure ?_
  refine wpAny_pure ?_
  dsimp only
  rw [hD, hHs, hC]
  generalize hG : (H.push { cls := .type "dict", data := .dict #[] }).push { cls := .type "cell", data := .cell none } = h₁
  have old : ∀ b o, s.heap.get? b = some o → h₁.get? b = some o := fun b o e => hG ▸ Heap.get?_push_of_some _ (Heap.get?_push_of_some _ (hH ▸ Heap.get?_push_of_some _ (Heap.get?_push_of_some _ e)))
  have oldI : ∀ b o, (s.heap.push oI).get? b = some o → h₁.get? b = some o := fun b o e => hG ▸ Heap.get?_push_of_some _ (Heap.get?_push_of_some _ (hH ▸ Heap.get?_push_of_some _ e))
  have nw0 : ∀ a, s.heap.objs.size ≤ a → h₀.get? a = none := fun a ha => by
    cases q : h₀.get? a with
    | none => rfl
    | some o => exact absurd (h0lt _ _ q) (Nat.not_lt.mpr ha)
  generalize hz : s.heap.objs.size = z at *
  have TT : Three h₀ env.locals (z + 1 + 1) (z + 1) z := ⟨Nat.ne_of_gt (Nat.lt_succ_self _), Nat.ne_of_gt (Nat.lt_succ_of_lt (Nat.lt_succ_self _)), Nat.ne_of_gt (Nat.lt_succ_self _), Nat.ne_of_gt (Nat.lt_succ_of_lt (Nat.lt_succ_of_lt hLlt)), Nat.ne_of_gt (Nat.lt_succ_of_lt hLlt), Nat.ne_of_gt hLlt, nw0 _ (Nat.le_succ_of_le (Nat.le_succ _)), nw0 _ (Nat.le_succ _), nw0 _ (Nat.le_refl _), Nat.lt_succ_of_lt (Nat.lt_succ_of_lt hLlt)⟩
  have F₁ : Fr h₀ env.locals h₁ m := ⟨F.ns.at' fun o e => old _ o e, fun b o e => old b o (F.keep b o e), F.above⟩
  have hcell : h₁.get? (z + 1 + 1 + 1) = some { cls := .type "cell", data := .cell none } := by
    rw [← hG, ← hC]; exact Heap.get?_push_size _ rfl
  have hcL : z + 1 + 1 + 1 ≠ env.locals := Nat.ne_of_gt (Nat.lt_succ_of_lt (Nat.lt_succ_of_lt (Nat.lt_succ_of_lt hLlt)))
  have hc0 : h₀.get? (z + 1 + 1 + 1) = none := nw0 _ (Nat.le_succ_of_le (Nat.le_succ_of_le (Nat.le_succ _)))
  have N₁ : News h₀ env.locals h₁ ((z + 1 + 1 + 1, { cls := .type "cell", data := .cell none }) :: nw) := fun q hq => by
    rcases List.mem_cons.mp hq with rfl | hq
    · exact ⟨hcell, hcL, hc0⟩
    · exact ⟨old _ _ (N q hq).1, (N q hq).2⟩
  have hcc : z + 1 + 1 + 1 ≠ z + 1 + 1 ∧ z + 1 + 1 + 1 ≠ z + 1 ∧ z + 1 + 1 + 1 ≠ z := ⟨Nat.ne_of_gt (Nat.lt_succ_self _), Nat.ne_of_gt (Nat.lt_succ_of_lt (Nat.lt_succ_self _)), Nat.ne_of_gt (Nat.lt_succ_of_lt (Nat.lt_succ_of_lt (Nat.lt_succ_self _)))⟩
  have off : Off (z + 1 + 1) (z + 1) z ((z + 1 + 1 + 1, { cls := .type "cell", data := .cell none }) :: nw) := fun q hq => by
    rcases List.mem_cons.mp hq with rfl | hq
    · exact hcc
    · exact ⟨Nat.ne_of_lt (Nat.lt_succ_of_lt (Nat.lt_succ_of_lt (hNlt q hq))), Nat.ne_of_lt (Nat.lt_succ_of_lt (hNlt q hq)), Nat.ne_of_lt (hNlt q hq)⟩
  have nsrc : ∀ a, z ≤ a → a ∉ src := fun a ha hm => absurd (hb a hm) (Nat.not_lt.mpr ha)
  have hI := nsrc _ (Nat.le_refl z)
  have W := it.walks _ hI
  have hst₁ : St z 0 h₁ := W.frame _ _ _ hst fun b _ o e => oldI b o e
  have hacc : h₁.PlainList (z + 1) #[] := ⟨_, hG ▸ Heap.get?_push_of_some _ (Heap.get?_push_of_some _ (by rw [← hH, ← hD]; exact Heap.get?_push_size _ rfl))⟩
  have hns : h₁.Ns (z + 1 + 1) (fun _ => none) := by
    have := Heap.Ns.new H (.type "dict")
    rw [hHs] at this
    exact this.at' fun o e => hG ▸ Heap.get?_push_of_some _ e
  have loop : codeAny (model PySem.Challenge.pw_og0152_01 w) A (.compLoop e 0 (.ref z) (.ref (z + 1)) (compEnvC scope ((x, z + 1 + 1 + 1) :: cl) (z + 1 + 1) env)) (compPost (model PySem.Challenge.pw_og0152_01 w) A E use Q (.ref (z + 1)) (z + 1 + 1)) { s with heap := h₁ } :=
    go _ _ _ _ _ h₁ s.toks _ rfl TT hcc hcL hc0 (fun q hq => Nat.ne_of_lt (Nat.lt_succ_of_lt (Nat.lt_succ_of_lt (Nat.lt_succ_of_lt (hNlt q hq))))) (nsrc _ (Nat.le_succ_of_le (Nat.le_succ_of_le (Nat.le_succ _)))) F₁ N₁ off hacc hns hst₁ hI (nsrc _ (Nat.le_succ_of_le (Nat.le_succ _))) (nsrc _ (Nat.le_succ _))
  exact comp_startk he rfl loop (W.self 0 _ _ _ hst₁ loop)
theorem asg_cell {h₀ : Heap} {L : Addr} {m : Str → Option Value} {pre rest : Led} {cenv : Env} {c : Addr} {oc : Obj} {v₀ : Option Value} {x : Str} {px : Pos} {u : Value} {Q : Unit → Shared → Prop} {E : Value → Shared → Prop}
    (F : Fr h₀ L s.heap m) (N : News h₀ L s.heap (pre ++ (c, oc) :: rest)) (hd : oc.data = .cell v₀) (h1 : ∀ q ∈ pre, q.1 ≠ c) (h2 : ∀ q ∈ rest, q.1 ≠ c)
    (hk : cenv.scope.kind = .function) (hl : cenv.kindOf x = some .cell) (hc : cenv.cells.lookup x = some c)
    (k : ∀ oc' h', Fr h₀ L h' m → News h₀ L h' (pre ++ (c, oc') :: rest) → oc'.data = .cell (some u) → Q () { s with heap := h' }) :
    wpAny (model PySem.Challenge.pw_og0152_01 w) A (assign (.Name x px) cenv u) Q E s := by
  have hmem := N (c, oc) (mem_appR (.head _))
  refine wpAny_assign_Name (wpAny_storeName_cell hk hl hc ⟨oc, hmem.1, hd⟩ fun h' hv hs => ?_)
  obtain ⟨o', ho', hd'⟩ := hv
  refine k o' h' ⟨F.ns.sameBut hs (Ne.symm hmem.2.1), fun b ob e => hs.extBut b ob (by rintro rfl; rw [hmem.2.2] at e; cases e) (F.keep b ob e), F.above⟩ (fun q hq => ?_) hd'
  rcases List.mem_append.mp hq with hq | hq
  · exact ⟨hs.extBut _ _ (h1 q hq) (N q (mem_appL hq)).1, (N q (mem_appL hq)).2⟩
  rcases List.mem_cons.mp hq with rfl | hq
  · exact ⟨ho', hmem.2⟩
  · exact ⟨hs.extBut _ _ (h2 q hq) (N q (mem_appR (.tail _ hq))).1, (N q (mem_appR (.tail _ hq))).2⟩
theorem nmC_C {M : Model} {E : Value → Shared → Prop} {h₀ : Heap} {L : Addr} {nw : Led} {scope : Scope} {cl : List (Str × Addr)} {env : Env} {C c : Addr} {oc : Obj} {x : Str} {pos : Pos} {v : Value} {Q : Value → Shared → Prop}
    (N : News h₀ L s.heap nw) (hc : cl.lookup x = some c) (hm : (c, oc) ∈ nw) (hd : oc.data = .cell (some v)) (h : Q v s) (hk : (compEnvC scope cl C env).scope.kind = .function) (hx : (compEnvC scope cl C env).kindOf x = some .cell) (hb : (x == ("__debug__" : Str)) = false) :
    wpAny M A (eval (.Name x pos) (compEnvC scope cl C env)) Q E s := wpAny_Name (wpAny_loadName_cell (env := compEnvC scope cl C env) hk hx hc ⟨oc, (N _ hm).1, hd⟩ h) hb
/-- a block within a block: the outer block's names are the frame, the frame is a thing of the ledger -/
theorem swap_in {h₀ h : Heap} {L C : Addr} {m mC : Str → Option Value} {oC : Obj} {rest : Led} (F : Fr h₀ L h m) (N : News h₀ L h ((C, oC) :: rest)) (nC : NsO oC mC) (off : ∀ q ∈ rest, q.1 ≠ C) (hLC : L < C) :
    ∃ oL, NsO oL m ∧ Fr h₀ C h mC ∧ News h₀ C h ((L, oL) :: rest) := by
  obtain ⟨oL, hL, nL⟩ := NsO.of F.ns
  refine ⟨oL, nL, ⟨nC.ns (N _ (.head _)).1, F.keep, Nat.le_of_lt (Nat.lt_of_le_of_lt F.above hLC)⟩, fun q hq => ?_⟩
  rcases List.mem_cons.mp hq with rfl | hq
  · refine ⟨hL, Nat.ne_of_lt hLC, ?_⟩
    cases e : h₀.get? L with
    | none => rfl
    | some o => exact absurd (Heap.lt_size e) (Nat.not_lt.mpr F.above)
  · exact ⟨(N q (.tail _ hq)).1, off q hq, (N q (.tail _ hq)).2.2⟩
theorem swap_out {h₀ h : Heap} {L C : Addr} {m mC : Str → Option Value} {oL : Obj} {rest : Led} (F : Fr h₀ C h mC) (N : News h₀ C h ((L, oL) :: rest)) (nL : NsO oL m) (off : ∀ q ∈ rest, q.1 ≠ L) (ab : h₀.objs.size ≤ L) :
    ∃ oC, NsO oC mC ∧ Fr h₀ L h m ∧ News h₀ L h ((C, oC) :: rest) := by
  obtain ⟨oC, hC, nC⟩ := NsO.of F.ns
  refine ⟨oC, nC, ⟨nL.ns (N _ (.head _)).1, F.keep, ab⟩, fun q hq => ?_⟩
  rcases List.mem_cons.mp hq with rfl | hq
  · refine ⟨hC, fun e => (N _ (.head _)).2.1 e.symm, ?_⟩
    cases e : h₀.get? C with
    | none => rfl
    | some o => exact absurd (Heap.lt_size e) (Nat.not_lt.mpr F.above)
  · exact ⟨(N q (.tail _ hq)).1, off q hq, (N q (.tail _ hq)).2.2⟩
/-- a block whose one name is captured by a block within -/
theorem comp_cellvar {β : Type} (Rel : Value → β → Prop) (bs : List β)
    {h₀ : Heap} {m : Str → Option Value} {nw : Led} {env : Env} {E : Value → Shared → Prop} {scope : Scope} {cl : List (Str × Addr)} {use : Option (Value → Sem Unit)} {Q : Value → Shared → Prop} {xv : Value} {src : List Addr} {n : Nat} {P : Nat → Value → Prop} {St : Addr → Nat → Heap → Prop}
    {elt iter : Expr} {pos px : Pos} {x : Str} {pre post : List (Str × NameKind)}
    (hnm : scope.names = pre ++ (x, .cell) :: post) (h1 : ∀ y ∈ pre, y.2 ≠ .cell) (h2 : ∀ y ∈ post, y.2 ≠ .cell) (hkind : scope.kind = .function)
    (hkc : ∀ c C, (compEnvC scope ((x, c) :: cl) C env).kindOf x = some .cell)
    (it : Iter w A s xv src n P St) (F : Fr h₀ env.locals s.heap m) (N : News h₀ env.locals s.heap nw)
    (hsrc : ∀ b ∈ src, (∃ o, h₀.get? b = some o) ∨ ∃ o, (b, o) ∈ nw)
    (hn : n = bs.length) (hlen : bs.length ≤ 1000000)
    (turn : ∀ C D I c oc i u b oC mC oD oI s₁, Three h₀ env.locals C D I → c ≠ C ∧ c ≠ D ∧ c ≠ I → c ≠ env.locals → P i u → bs[i]? = some b → Fr h₀ env.locals s₁.heap m → News h₀ env.locals s₁.heap ((C, oC) :: (D, oD) :: (I, oI) :: (c, oc) :: nw) → NsO oC mC → Off C D I ((c, oc) :: nw) → oc.data = .cell (some u) →
      wpAny (model PySem.Challenge.pw_og0152_01 w) A (eval elt (compEnvC scope ((x, c) :: cl) C env)) (SEnd h₀ env.locals m C D I oD oI ((c, oc) :: nw) (fun y => Rel y b) s₁) (fun _ _ => False) s₁)
    (fin : ∀ C D I h' tk ys mC c, Three h₀ env.locals C D I → Fr h₀ env.locals h' m → News h₀ env.locals h' ((D, listOf ys.toArray c) :: nw) → h'.Ns C mC → Off C D I nw → Paired Rel ys bs → compPost (model PySem.Challenge.pw_og0152_01 w) A E use Q (.ref D) C (.ok .next) { s with heap := h', toks := tk }) :
    CompGo w A E env scope cl (.ListComp elt [⟨.Name x px, iter, [], 0⟩] scope pos) use Q xv s := by
  refine comp_openC rfl hnm h1 h2 hkind it F N fun C D I c s' hh tk' mC es TT hcc hcL hc0 hcn hcs FG NG off hacc hns hst hI hC hD => ?_
  subst es
  refine comp_core rfl rfl rfl (fun i nw' ys => ∃ oc v₀, nw' = (c, oc) :: nw ∧ oc.data = .cell v₀ ∧ Paired Rel ys (bs.take i)) (it.walks I hI) (it.live I) (it.quiet I) FG NG hst (ys₀ := []) hacc hns rfl TT.CD TT.CI TT.DI TT.CL TT.DL TT.IL TT.C0 TT.D0 TT.I0 off ?_ ⟨_, none, rfl, rfl, by rw [List.take_zero]; exact .nil⟩ ?_ ?_ ?_
  · intro b hb
    refine ⟨fun q => hC (q ▸ hb), fun q => hD (q ▸ hb), ?_⟩
    rcases hsrc b hb with h | ⟨o, h⟩
    · exact .inl h
    · exact .inr ⟨o, fun i nw' ys ⟨oc, v₀, e, _⟩ => by rw [e]; exact .tail _ h⟩
  · rintro i nw' ys ⟨oc, v₀, _, _, h⟩
    have := h.length
    rw [this, List.length_take]
    omega
  · rintro i u ys nw₁ oC mC' oD oI s₁ hi hP ⟨oc, v₀, rfl, hoc, hp⟩ F₁ N₁ nC off₁
    obtain ⟨b, hb⟩ : ∃ b, bs[i]? = some b := ⟨bs[i]'(by omega), by simp⟩
    have offn : Off C D I nw := fun q hq => off₁ q (.tail _ hq)
    refine asg_cell (pre := [(C, oC), (D, oD), (I, oI)]) (rest := nw) F₁ N₁ hoc (fun q hq => ?_) hcn hkind (hkc c C) (by show List.lookup x ((x, c) :: cl) = some c; rw [List.lookup_cons, beq_self_eq_true]) fun oc' h' F' N' hoc' => tests_nil ?_
    · rcases List.mem_cons.mp hq with rfl | hq
      · exact Ne.symm hcc.1
      rcases List.mem_cons.mp hq with rfl | hq
      · exact Ne.symm hcc.2.1
      · rw [List.mem_singleton.mp hq]; exact Ne.symm hcc.2.2
    rw [if_pos rfl]
    have off' : Off C D I ((c, oc') :: nw) := Off.cons hcc offn
    refine wpAny_mono (turn C D I c oc' i u b oC mC' oD oI { s₁ with heap := h' } TT hcc hcL hP hb F' N' nC off' hoc') (fun y s₄ h₄ => ?_) fun _ _ f => f.elim
    obtain ⟨h₅, tk₅, oC₅, mC₅, rfl, F₅, N₅, n₅, hR⟩ := h₄
    refine EltEnd.mk' F₅ N₅ n₅ off' ⟨_, _, rfl, hoc', ?_⟩
    have e : bs.take (i + 1) = bs.take i ++ [b] := by rw [List.take_add_one, hb]; rfl
    rw [e]
    exact Paired.snoc hp hR
  · rintro h₂ tk₂ nw₂ ys mC₂ F₂ N₂ ⟨c', hD₂⟩ hN₂ off₂ _ ⟨oc, v₀, rfl, _, hp⟩
    rw [hn, List.take_length] at hp
    refine fin C D I h₂ tk₂ ys mC₂ c' TT F₂ (fun q hq => ?_) hN₂ (fun q hq => off₂ q (.tail _ hq)) hp
    rcases List.mem_cons.mp hq with rfl | hq
    · exact ⟨hD₂, TT.DL, TT.D0⟩
    · exact N₂ q (.tail _ hq)
theorem offC_of {h₀ : Heap} {L C D I : Addr} {oD oI : Obj} {nw : Led} (TT : Three h₀ L C D I) (off : Off C D I nw) : ∀ q ∈ (D, oD) :: (I, oI) :: nw, q.1 ≠ C := fun q hq => by
  rcases List.mem_cons.mp hq with rfl | hq
  · exact Ne.symm TT.CD
  rcases List.mem_cons.mp hq with rfl | hq
  · exact Ne.symm TT.CI
  · exact (off q hq).1
theorem swap2 {a b : Addr × Obj} {nw : Led} : ∀ q ∈ b :: a :: nw, q ∈ a :: b :: nw := fun q hq => by
  rcases List.mem_cons.mp hq with rfl | hq
  · exact .tail _ (.head _)
  rcases List.mem_cons.mp hq with rfl | hq
  · exact .head _
  · exact .tail _ (.tail _ hq)
theorem offL_of {h₀ h : Heap} {L C D : Addr} {oL oC o : Obj} {rest : Led} (ne : ∀ q ∈ (L, oL) :: rest, q.1 ≠ D) (N : News h₀ L h ((C, oC) :: rest)) : ∀ q ∈ (D, o) :: rest, q.1 ≠ L := fun q hq => by
  rcases List.mem_cons.mp hq with rfl | hq
  · exact Ne.symm (ne _ (.head _))
  · exact (N q (.tail _ hq)).2.1
theorem drop2 {a b : Addr × Obj} {nw : Led} : ∀ q ∈ a :: nw, q ∈ a :: b :: nw := fun q hq => by
  rcases List.mem_cons.mp hq with rfl | hq
  · exact .head _
  · exact .tail _ (.tail _ hq)
end
local macro_rules | `(tactic| walk_at "eval Name") => `(tactic| (k_here; k_dflt (refine' nmC_C ?N ?hc ?hm ?hd ?_ ?hk ?hx ?hb; (case hx => exact rfl); (case hk => exact rfl); (case hb => decide); (case hc => exact rfl); (case N => k_asm); (case hm => k_mem); (case hd => assumption); k_whole)))
/-! part D4 -/
local macro_rules | `(tactic| walk_at "call ref") => `(tactic| (k_here; (refine' plus_spec ?hA ?X ?T ?hv ?hu ?_; (case hA => walk_at "m_room"); (case X => k_in); (case T => walk_at "m_top"); (case hv => walk_at "m_hv"); (case hu => walk_at "m_hv")); intro h' tk' tl' r' e' nn' hd'; (have O' := new_off (by k_asm) nn'); (obtain ⟨F', N'⟩ := news_more (by k_asm) (by k_asm) e' nn'); clear e' nn'; (try k_sweep)))
local macro_rules | `(tactic| walk_at "m_least") => `(tactic| ((case hA => walk_at "m_room"); (case X => k_in); (case T => walk_at "m_top"); (case hl => exact ⟨_, _, rfl, News.get (by k_asm) (by k_mem)⟩); (case hd => assumption); (case hhas => first | exact has_up (by assumption) (by k_asm) | exact HU.at' (by assumption) (by k_asm) (by k_asm) (by first | assumption | (intro q hq; refine List.Mem.tail _ ?_; revert q; assumption))); (case hne => assumption); (case hlen => assumption); intro h' tk' r' e' hr'; (obtain ⟨F', N'⟩ := news_more (by k_asm) (by k_asm) e' NewIn.nil); clear e'; (try simp only [List.nil_append] at N'); (try k_sweep)))
local macro_rules | `(tactic| walk_at "call ref") => `(tactic| (k_here; (refine' least_spec ?hA ?X ?T ?hl ?hhas ?hd ?hne ?hlen ?_); walk_at "m_least"))
local macro_rules | `(tactic| walk_at "call ref") => `(tactic| (k_here; (refine' greatest_spec ?hA ?X ?T ?hl ?hhas ?hd ?hne ?hlen ?_); walk_at "m_least"))
section
variable {w : World} {A : Around} {s : Shared} {E : Value → Shared → Prop}
theorem add_listsV {h₀ : Heap} {L : Addr} {m : Str → Option Value} {news : Led} {l b : Addr} {vs ws : List Value} {Q : Value → Shared → Prop} (F : Fr h₀ L s.heap m) (N : News h₀ L s.heap news) (hl : s.heap.IsList l vs.toArray) (hb : s.heap.IsList b ws.toArray) (hz : vs.length + ws.length ≤ 1000000)
    (h : ∀ D h', Fr h₀ L h' m → News h₀ L h' ((D, listOf (vs ++ ws).toArray 0) :: news) → Q (.ref D) { s with heap := h' }) :
    wpAny (model PySem.Challenge.pw_og0152_01 w) A (binaryOp .Add (.ref l) (.ref b)) Q E s := add_lists F N hl hb (fun h' F' N' => h _ h' F' N') (by rw [sizeLine_eq]; omega)
end
local macro_rules | `(tactic| walk_at "m_lst") => `(tactic| (first | exact Fr.lst (by k_asm) (by assumption) | exact News.isList (by k_asm) (by k_mem)))
local macro_rules | `(tactic| walk_at "binaryOp Add ref ref") => `(tactic| (k_here; (refine' add_listsV ?F ?N ?hl ?hb ?hz ?_; (case F => k_asm); (case N => k_asm); (case hl => walk_at "m_lst"); (case hb => walk_at "m_lst"); (case hz => first | omega | (simp only [List.length_append] at *; omega)); k_whole); intro D' h' F' N'; (try k_sweep)))
section
variable {p : Program} {loose : List Str} {w : World} {mean : ExcName → Option Value} {mg mb : Str → Option Value} {A : Around} {s : Shared} {Q E : Value → Shared → Prop}
theorem box_of_spec (hA : Room 8 A) (X : (hd.heap_39 w.params).In s.heap) (T : Top p loose mean mg mb s.heap) {v : Value} {vs : List Value} {gs : List Gl} {has : Addr → Obj → Prop} (hl : ListBy (HH s.heap) v vs)
    (hhas : ∀ a o, has a o → HH s.heap a o) (hp : Paired (GlyphBy w.params has) vs gs) (hne : gs ≠ []) (hlen : vs.length ≤ 500)
    (ret : ∀ h' tk tl r, Ext s.heap h' → NewIn s.heap h' tl → BoxBy w.params (HU has tl) r (boxOf gs) → Q r { s with heap := h', toks := tk }) :
    wpAny (model PySem.Challenge.pw_og0152_01 w) A (call (.ref 194) [v]) Q E s := by
  obtain ⟨a, n, rfl, ha⟩ := hl
  unfold HH at ha
  have hls : s.heap.IsList a vs.toArray := ⟨_, ha, rfl, n, rfl⟩
  have hlen' : vs.length = gs.length := hp.length
  obtain ⟨hn, dp, fr, gd, un⟩ := A
  obtain rfl : hn = none := hA.handled
  refine wpAny_call ?_
  k_dflt (refine' enter (binds := [(Str.ofString "laid", .ref a)]) ?k1 ?k2 ?k6 ?k7 ?k8 ?k9 ?kB ?_ ?c2 ?c3 ?c4 ?c5; walk_at "m_in")
  walk_at "m_pure"
  k_steps
  refine comp_pure (DecBy w.params) DecBy.mono has (gs.map Gl.x) (by decide) rfl (Iter.list rfl (Fr.lst (by assumption) hls)) (by assumption) News.nil (src_base ha) (by simp [hlen']) (by simp; omega) ?_ ?_
  · intro C D I i u b nw₁ oC mC oD oI s₁ TT hP hb F₁ N₁ nC off hsub
    obtain ⟨g, hg, hgl⟩ := paired_get hp (by simpa using hP)
    obtain rfl : g.x = b := by rw [List.getElem?_map, hg] at hb; exact Option.some.inj hb
    obtain ⟨ga, gd, vt, vx, vy, vw, vh, t1, t2, t3, t4, t5, rfl, hga, hgd, hx, hy, hw, hh⟩ := hgl
    obtain ⟨xa, xd, x1, x2, x3, x4, rfl, hxa, hxd⟩ := id hx
    replace hga := hhas _ _ hga
    replace hgd := hhas _ _ hgd
    unfold HH at hga hgd
    refine pure_name F₁ N₁ nC off TT rfl rfl fun oC' h' F' N' n' => ?_
    k_steps
    exact PEnd.same F' N' n' (hx.mono HU.left)
  intro C1 D1 I1 h1 tk1 tl1 ys1 mC1 c1 TT1 F1 N1 n1 off1 p1
  refine fin_none TT1 F1 N1 n1 off1 fun h2 F2 N2 ne2 => ?_
  simp only [List.append_nil] at N2
  clear F1 N1 n1 off1 TT1
  k_steps
  refine comp_pure (DecBy w.params) DecBy.mono has (gs.map fun g => g.x + g.w) (by decide) rfl (Iter.list rfl (Fr.lst (by assumption) hls)) (by assumption) N2 (src_base ha) (by simp [hlen']) (by simp; omega) ?_ ?_
  · intro C D I i u b nw₁ oC mC oD oI s₁ TT hP hb F₁ N₁ nC off hsub
    obtain ⟨g, hg, hgl⟩ := paired_get hp (by simpa using hP)
    obtain rfl : g.x + g.w = b := by rw [List.getElem?_map, hg] at hb; exact Option.some.inj hb
    obtain ⟨ga, gd, vt, vx, vy, vw, vh, t1, t2, t3, t4, t5, rfl, hga, hgd, hx, hy, hw, hh⟩ := hgl
    replace hx := hx.mono hhas
    replace hw := hw.mono hhas
    obtain ⟨xa, xd, x1, x2, x3, x4, rfl, hxa, hxd⟩ := id hx
    obtain ⟨wa, wd, w1, w2, w3, w4, rfl, hwa, hwd⟩ := id hw
    replace hga := hhas _ _ hga
    replace hgd := hhas _ _ hgd
    unfold HH at hga hgd hxa hxd hwa hwd
    clear F2 N2 p1 ne2
    refine pure_name F₁ N₁ nC off TT rfl rfl fun oC' h' F' N' n' => ?_
    clear F₁ N₁
    k_steps
    rename Fr _ _ _ _ => Fx
    rename News _ _ _ _ => Nx
    rename DecBy _ (ML _) _ _ => dx
    exact PEnd.call Fx Nx n' (by assumption) (dx.mono HU.right)
  intro C3 D3 I3 h3 tk3 tl3 ys3 mC3 c3 TT3 F3 N3 n3 off3 p3
  refine fin_none TT3 F3 N3 n3 off3 fun h4 F4 N4 ne4 => ?_
  clear F3 N3 n3 off3 TT3 F2 N2 ne4 ne2
  have l1 : ys1.length = gs.length := by rw [p1.length, List.length_map]
  have l3 : ys3.length = gs.length := by rw [p3.length, List.length_map]
  k_steps
  rename Fr _ _ _ _ => F5
  rename News _ _ _ _ => N5
  rename Addr => DA

  refine comp_pure (DecBy w.params) DecBy.mono has (gs.map Gl.y) (by decide) rfl (Iter.list rfl (Fr.lst (by assumption) hls)) (by assumption) N5 (src_base ha) (by simp [hlen']) (by simp; omega) ?_ ?_
  · intro C D I i u b nw₁ oC mC oD oI s₁ TT hP hb F₁ N₁ nC off hsub
    obtain ⟨g, hg, hgl⟩ := paired_get hp (by simpa using hP)
    obtain rfl : g.y = b := by rw [List.getElem?_map, hg] at hb; exact Option.some.inj hb
    obtain ⟨ga, gd, vt, vx, vy, vw, vh, t1, t2, t3, t4, t5, rfl, hga, hgd, hx, hy, hw, hh⟩ := hgl
    obtain ⟨xa, xd, x1, x2, x3, x4, rfl, hxa, hxd⟩ := id hy
    replace hga := hhas _ _ hga
    replace hgd := hhas _ _ hgd
    unfold HH at hga hgd
    clear F5 N5 p1 p3
    refine pure_name F₁ N₁ nC off TT rfl rfl fun oC' h' F' N' n' => ?_
    clear F₁ N₁
    k_steps
    exact PEnd.same F' N' n' (hy.mono HU.left)
  intro C5 D5 I5 h5 tk5 tl5 ys5 mC5 c5 TT5 F6 N6 n5 off5 p5
  refine fin_none TT5 F6 N6 n5 off5 fun h6 F7 N7 ne6 => ?_
  clear F6 N6 n5 off5 TT5 F5 N5 ne6
  k_steps
  refine comp_pure (DecBy w.params) DecBy.mono has (gs.map fun g => g.y + g.h) (by decide) rfl (Iter.list rfl (Fr.lst (by assumption) hls)) (by assumption) N7 (src_base ha) (by simp [hlen']) (by simp; omega) ?_ ?_
  · intro C D I i u b nw₁ oC mC oD oI s₁ TT hP hb F₁ N₁ nC off hsub
    obtain ⟨g, hg, hgl⟩ := paired_get hp (by simpa using hP)
    obtain rfl : g.y + g.h = b := by rw [List.getElem?_map, hg] at hb; exact Option.some.inj hb
    obtain ⟨ga, gd, vt, vx, vy, vw, vh, t1, t2, t3, t4, t5, rfl, hga, hgd, hx, hy, hw, hh⟩ := hgl
    replace hy := hy.mono hhas
    replace hh := hh.mono hhas
    obtain ⟨xa, xd, x1, x2, x3, x4, rfl, hxa, hxd⟩ := id hy
    obtain ⟨wa, wd, w1, w2, w3, w4, rfl, hwa, hwd⟩ := id hh
    replace hga := hhas _ _ hga
    replace hgd := hhas _ _ hgd
    unfold HH at hga hgd hxa hxd hwa hwd
    clear F7 N7 p1 p3 p5
    refine pure_name F₁ N₁ nC off TT rfl rfl fun oC' h' F' N' n' => ?_
    clear F₁ N₁
    k_steps
    rename Fr _ _ _ _ => Fx
    rename News _ _ _ _ => Nx
    rename DecBy _ (ML _) _ _ => dx
    exact PEnd.call Fx Nx n' (by assumption) (dx.mono HU.right)
  intro C7 D7 I7 h7 tk7 tl7 ys7 mC7 c7 TT7 F8 N8 n7 off7 p7
  refine fin_none TT7 F8 N8 n7 off7 fun h8 F9 N9 ne8 => ?_
  clear F8 N8 n7 off7 TT7 F7 N7 ne8
  have l5 : ys5.length = gs.length := by rw [p5.length, List.length_map]
  have l7 : ys7.length = gs.length := by rw [p7.length, List.length_map]
  have pA : Paired (DecBy w.params (HU has (tl7 ++ (tl5 ++ (tl3 ++ tl1))))) (ys1 ++ ys3) (gs.map Gl.x ++ gs.map fun g => g.x + g.w) :=
    Paired.append (Paired.mono' (fun _ _ h => h.mono (HU.grow fun q hq => mem_appR (mem_appR (mem_appR hq)))) p1) (Paired.mono' (fun _ _ h => h.mono (HU.grow fun q hq => mem_appR (mem_appR (mem_appL hq)))) p3)
  have pU : Paired (DecBy w.params (HU has (tl7 ++ (tl5 ++ (tl3 ++ tl1))))) (ys5 ++ ys7) (gs.map Gl.y ++ gs.map fun g => g.y + g.h) :=
    Paired.append (Paired.mono' (fun _ _ h => h.mono (HU.grow fun q hq => mem_appR (mem_appL hq))) p5) (Paired.mono' (fun _ _ h => h.mono (HU.grow fun q hq => mem_appL hq)) p7)
  have neA : (gs.map Gl.x ++ gs.map fun g => g.x + g.w) ≠ [] := by simp [hne]
  have neU : (gs.map Gl.y ++ gs.map fun g => g.y + g.h) ≠ [] := by simp [hne]
  have lA : (ys1 ++ ys3).length ≤ 1000 := by rw [List.length_append]; omega
  have lU : (ys5 ++ ys7).length ≤ 1000 := by rw [List.length_append]; omega
  have hsub : ∀ q ∈ tl7 ++ (tl5 ++ (tl3 ++ tl1)), q ∈ (D7, listOf ys7.toArray c7) :: (tl7 ++ (D5, listOf ys5.toArray c5) :: (tl5 ++ (DA, listOf (ys1 ++ ys3).toArray 0) :: (D3, listOf ys3.toArray c3) :: (tl3 ++ (D1, listOf ys1.toArray c1) :: tl1))) := by
    intro q hq
    simp only [List.mem_cons, List.mem_append] at hq ⊢
    rcases hq with h | h | h | h
    · exact .inr (.inl h)
    · exact .inr (.inr (.inr (.inl h)))
    · exact .inr (.inr (.inr (.inr (.inr (.inr (.inl h))))))
    · exact .inr (.inr (.inr (.inr (.inr (.inr (.inr (.inr h)))))))
  clear p1 p3 p5 p7
  k_steps
  rename DecBy _ (HU _ _) _ (lmin (List.map Gl.x _ ++ _)) => e1
  rename DecBy _ (HU _ _) _ (lmin (List.map Gl.y _ ++ _)) => e2
  rename DecBy _ (HU _ _) _ (lmax (List.map Gl.x _ ++ _)) => e3
  rename DecBy _ (HU _ _) _ (lmax (List.map Gl.y _ ++ _)) => e4
  rename Fr _ _ _ _ => FF
  rename News _ _ _ _ => NN
  rename Addr => TD
  refine ret _ _ ((TD, _) :: (tl7 ++ (tl5 ++ (tl3 ++ tl1)))) _ (Fr.keep FF) (newIn_of NN fun q hq => ?_) ⟨TD, 0, _, _, _, _, rfl, .inr (.head _), e1.mono (HU.grow fun q hq => .tail _ hq), e2.mono (HU.grow fun q hq => .tail _ hq), e3.mono (HU.grow fun q hq => .tail _ hq), e4.mono (HU.grow fun q hq => .tail _ hq)⟩
  rcases List.mem_cons.mp hq with rfl | hq
  · exact .head _
  · exact .tail _ (.tail _ (hsub q hq))
end
/-! part D5 -/
def ToldBy (has : Addr → Obj → Prop) (v : Value) (t : Int) : Prop := ∃ a n x1 x2, v = .ref a ∧ has a (tupOf #[.int (dtop t) x1, .int (dpl t) x2] n)
theorem ToldBy.mono {has has' : Addr → Obj → Prop} {v : Value} {t : Int} (k : ∀ a o, has a o → has' a o) (h : ToldBy has v t) : ToldBy has' v t := let ⟨a, n, x1, x2, e, q⟩ := h; ⟨a, n, x1, x2, e, k _ _ q⟩
def BToldBy (has : Addr → Obj → Prop) (v : Value) (b : Box) : Prop := ∃ a n v1 v2 v3 v4, v = .ref a ∧ has a (tupOf #[v1, v2, v3, v4] n) ∧ ToldBy has v1 b.l ∧ ToldBy has v2 b.b ∧ ToldBy has v3 b.r ∧ ToldBy has v4 b.t
theorem BToldBy.mono {has has' : Addr → Obj → Prop} {v : Value} {b : Box} (k : ∀ a o, has a o → has' a o) (h : BToldBy has v b) : BToldBy has' v b :=
  let ⟨a, n, v1, v2, v3, v4, e, h1, d1, d2, d3, d4⟩ := h; ⟨a, n, v1, v2, v3, v4, e, k _ _ h1, d1.mono k, d2.mono k, d3.mono k, d4.mono k⟩
local macro_rules | `(tactic| walk_at "call ref") => `(tactic| (k_here; (refine' told_spec ?hA ?X ?T ?hv ?_; (case hA => walk_at "m_room"); (case X => k_in); (case T => walk_at "m_top"); (case hv => walk_at "m_hv")); intro h' tk' D' x1' x2' n' e' nn'; (have O' := new_off (by k_asm) nn'); (obtain ⟨F', N'⟩ := news_more (by k_asm) (by k_asm) e' nn'); clear e' nn'; (try k_sweep)))
section
variable {p : Program} {loose : List Str} {w : World} {mean : ExcName → Option Value} {mg mb : Str → Option Value} {A : Around} {s : Shared} {Q E : Value → Shared → Prop}
theorem box_told_spec (hA : Room 4 A) (X : (hd.heap_39 w.params).In s.heap) (T : Top p loose mean mg mb s.heap) {v : Value} {b : Box} (hb : BoxBy w.params (HH s.heap) v b)
    (ret : ∀ h' tk tl r, Ext s.heap h' → NewIn s.heap h' tl → BToldBy (ML tl) r b → Q r { s with heap := h', toks := tk }) :
    wpAny (model PySem.Challenge.pw_og0152_01 w) A (call (.ref 199) [v]) Q E s := by
  obtain ⟨a, n, v1, v2, v3, v4, rfl, ha, d1, d2, d3, d4⟩ := hb
  unfold HH at ha
  have hp : Paired (DecBy w.params (HH s.heap)) [v1, v2, v3, v4] [b.l, b.b, b.r, b.t] := .cons d1 (.cons d2 (.cons d3 (.cons d4 .nil)))
  have hls : IsTup s.heap a #[v1, v2, v3, v4] := ⟨_, ha, rfl, n, rfl⟩
  obtain ⟨hn, dp, fr, gd, un⟩ := A
  obtain rfl : hn = none := hA.handled
  refine wpAny_call ?_
  k_dflt (refine' enter (binds := [(Str.ofString "frame", .ref a)]) ?k1 ?k2 ?k6 ?k7 ?k8 ?k9 ?kB ?_ ?c2 ?c3 ?c4 ?c5; walk_at "m_in")
  walk_at "m_pure"
  k_steps
  rename Fr _ _ _ _ => F0
  refine comp_pure ToldBy ToldBy.mono (fun _ _ => False) [b.l, b.b, b.r, b.t] (by decide) rfl (Iter.tuple rfl (hls.keeps F0.keep)) F0 News.nil (src_base ha) rfl (by simp) ?_ ?_
  · intro C D I i u t nw₁ oC mC oD oI s₁ TT hP hb F₁ N₁ nC off hsub
    obtain ⟨t', ht', hu⟩ := paired_get hp (by simpa using hP)
    obtain rfl : t' = t := by rw [hb] at ht'; exact (Option.some.inj ht').symm
    obtain ⟨xa, xd, x1, x2, x3, x4, rfl, hxa, hxd⟩ := id hu
    unfold HH at hxa hxd
    clear F0
    refine pure_name F₁ N₁ nC off TT rfl rfl fun oC' h' F' N' n' => ?_
    clear F₁ N₁
    k_steps
    rename Fr _ _ _ _ => Fx
    rename News _ _ _ _ => Nx
    exact PEnd.call Fx Nx n' (by assumption) ⟨_, _, _, _, rfl, .inr (.head _)⟩
  intro C1 D1 I1 h1 tk1 tl1 ys1 mC1 c1 TT1 F1 N1 n1 off1 p1
  refine fin_none TT1 F1 N1 n1 off1 fun h2 F2 N2 ne2 => ?_
  simp only [List.append_nil] at N2
  clear F1 N1 n1 off1 TT1 F0
  obtain _ | ⟨q1, _ | ⟨q2, _ | ⟨q3, _ | ⟨q4, _ | _⟩⟩⟩⟩ := p1
  k_steps
  rename Fr _ _ _ _ => FF
  rename News _ _ _ _ => NN
  rename Addr => TD
  refine ret _ _ ((TD, _) :: tl1) _ (Fr.keep FF) (newIn_of NN fun q hq => ?_) ⟨TD, 0, _, _, _, _, rfl, .head _, q1.mono fun a o h => ?_, q2.mono fun a o h => ?_, q3.mono fun a o h => ?_, q4.mono fun a o h => ?_⟩
  · rcases List.mem_cons.mp hq with rfl | hq
    · exact .head _
    · exact .tail _ (.tail _ hq)
  all_goals exact .tail _ (h.elim False.elim id)
end
/-! part D6 -/
local macro_rules | `(tactic| walk_at "subscriptTail") => `(tactic| (k_here; (with_reducible show wpAny _ _ (subscriptTail _ _ (Value.ref _) (Value.int _ _)) _ _ _); k_dflt (refine' item_tupleT ?t ?a ?b ?c ?d ?_ ?hs; (case t => exact IsTup.keeps (by assumption) (Fr.keep (by k_asm))); (case a => decide); (case b => decide); (case c => rfl); (case d => rfl); (case hs => with_unfolding_all rfl); k_whole)))
def side (k : Int) (b : Box) : Int := if k = 0 then b.l else if k = 1 then b.b else if k = 2 then b.r else b.t
abbrev scopeI : Scope := { kind := .function, names := [(Str.ofString ".0", .local), (Str.ofString "frame", .local), (Str.ofString "side", .free)], isGenerator := false, isCoroutine := false, more := [] }
section
variable {p : Program} {loose : List Str} {w : World} {mean : ExcName → Option Value} {mg mb : Str → Option Value} {A : Around} {s : Shared} {Q E : Value → Shared → Prop}
theorem inner_comp {h₀ : Heap} {C c cb a fi : Addr} {mC : Str → Option Value} {nw : Led} {oc ob : Obj} {k : Int} {tk₀ : Tok} {n : Nat} {vs : List Value} {bs : List Box} {has : Addr → Obj → Prop} {sc sf : Scope} {L : Addr} {cdv : Value} {qual : Str} {p1 p2 p3 p4 p5 p6 : Pos}
    (hA : A.handled = none) (F : Fr h₀ C s.heap mC) (X : (hd.heap_39 w.params).In h₀) (N : News h₀ C s.heap nw) (hc : (c, oc) ∈ nw) (hoc : oc.data = .cell (some (.int k tk₀))) (hb : (cb, ob) ∈ nw) (hob : ob.data = .cell (some (.ref a)))
    (ha : h₀.get? a = some (listOf vs.toArray n)) (hhas : ∀ x o, has x o → HH h₀ x o) (hp : Paired (BoxBy w.params has) vs bs) (hlen : bs.length ≤ 1000) (hk : k = 0 ∨ k = 1 ∨ k = 2 ∨ k = 3)
    (hkS : (compEnvC sc [(Str.ofString "side", c), (Str.ofString "boxes", cb)] C (envOfC qual sf L fi cdv)).kindOf (Str.ofString "side") = some .cell)
    (hkB : (compEnvC sc [(Str.ofString "side", c), (Str.ofString "boxes", cb)] C (envOfC qual sf L fi cdv)).kindOf (Str.ofString "boxes") = some .cell) (hkF : sc.kind = .function)
    (ret : ∀ D h' tk ys c', Fr h₀ C h' mC → News h₀ C h' ((D, listOf ys.toArray c') :: nw) → (∀ q ∈ nw, q.1 ≠ D) → Paired (DecBy w.params has) ys (bs.map (side k)) → Q (.ref D) { s with heap := h', toks := tk }) :
    wpAny (model PySem.Challenge.pw_og0152_01 w) A (eval (.ListComp (.Subscript (.Name (Str.ofString "frame") p1) (.Name (Str.ofString "side") p2) p3) [⟨.Name (Str.ofString "frame") p4, .Name (Str.ofString "boxes") p5, [], 0⟩] scopeI p6) (compEnvC sc [(Str.ofString "side", c), (Str.ofString "boxes", cb)] C (envOfC qual sf L fi cdv))) Q E s := by
  have hls : s.heap.IsList a vs.toArray := ⟨_, F.keep _ _ ha, rfl, n, rfl⟩
  have hlen' : vs.length = bs.length := hp.length
  have hS : ∀ C', (compEnvC scopeI [(Str.ofString "side", c)] C' (compEnvC sc [(Str.ofString "side", c), (Str.ofString "boxes", cb)] C (envOfC qual sf L fi cdv))).kindOf (Str.ofString "side") = some .cell := by
    intro C'
    show List.lookup (Str.ofString "side") (scopeI.names.map fun (n, k) => if (k == NameKind.free && sc.kind == .function && (compEnvC sc [(Str.ofString "side", c), (Str.ofString "boxes", cb)] C (envOfC qual sf L fi cdv)).kindOf n == some .cell) then (n, NameKind.cell) else (n, k)) = _
    simp only [List.map_cons, List.map_nil, hkF, hkS]
    rfl
  refine comp_eval (cl := [(Str.ofString "side", c)]) (by with_unfolding_all rfl) rfl (by decide) ?_ (fun _ => by with_unfolding_all rfl)
  refine wpAny_Name (wpAny_loadName_cell (env := compEnvC sc [(Str.ofString "side", c), (Str.ofString "boxes", cb)] C (envOfC qual sf L fi cdv)) hkF hkB rfl ⟨ob, (N _ hb).1, hob⟩ ?_) (by decide)
  refine comp_same (DecBy w.params has) (bs.map (side k)) (by decide) rfl (Iter.list hA hls) F N (src_base ha) (by simp [hlen']) (by simp; omega) ?_ ?_
  · intro C' D I i u t oC mC' oD oI s₁ TT hP ht F₁ N₁ nC off
    obtain ⟨b, hb', hu⟩ := paired_get hp (by simpa using hP)
    obtain rfl : side k b = t := by rw [List.getElem?_map, hb'] at ht; exact Option.some.inj ht
    obtain ⟨fa, nf, v1, v2, v3, v4, rfl, hfa, d1, d2, d3, d4⟩ := hu
    have hit : IsTup h₀ fa [v1, v2, v3, v4].toArray := ⟨_, hhas _ _ hfa, rfl, nf, rfl⟩
    refine pure_name F₁ N₁ nC off TT rfl rfl fun oC' h' F' N' n' => ?_
    clear F₁ N₁
    refine Subscript_ ?_
    refine nmC_L N' (.head _) n' rfl ?_ rfl rfl (by decide)
    refine nmC_C N' rfl (.tail _ (.tail _ (.tail _ hc))) hoc ?_ rfl (hS C') (by decide)
    have ok : ∀ {v : Value}, DecBy w.params has v (side k b) → SEnd h₀ _ mC C' D I oD oI nw (fun y => DecBy w.params has y (side k b)) s₁ v { s₁ with heap := h', toks := s₁.toks + 1 } := fun hv => SEnd.mk' F' N' n' hv
    rcases hk with rfl | rfl | rfl | rfl
    · exact item_tupleT (IsTup.keeps hit F'.keep) (by decide) (by decide) rfl rfl (ok d1) (by with_unfolding_all rfl)
    · exact item_tupleT (IsTup.keeps hit F'.keep) (by decide) (by decide) rfl rfl (ok d2) (by with_unfolding_all rfl)
    · exact item_tupleT (IsTup.keeps hit F'.keep) (by decide) (by decide) rfl rfl (ok d3) (by with_unfolding_all rfl)
    · exact item_tupleT (IsTup.keeps hit F'.keep) (by decide) (by decide) rfl rfl (ok d4) (by with_unfolding_all rfl)
  intro C1 D1 I1 h1 tk1 ys1 mC1 c1 TT1 F1 N1 n1 off1 p1
  refine fin_none TT1 F1 N1 n1 off1 fun h2 F2 N2 ne2 => ?_
  exact ret _ _ _ _ _ F2 N2 ne2 p1
def boxAround (bs : List Box) : Box := ⟨lmin (bs.map (side 0)), lmin (bs.map (side 1)), lmax (bs.map (side 2)), lmax (bs.map (side 3))⟩
end
local macro_rules | `(tactic| walk_at "eval ListComp") => `(tactic| (with_reducible refine stop_of (P := wpAny _ _ (eval (Expr.ListComp _ _ scopeI _) _) _ _ _) ?_))
section
variable {p : Program} {loose : List Str} {w : World} {mean : ExcName → Option Value} {mg mb : Str → Option Value} {A : Around} {s : Shared} {Q E : Value → Shared → Prop}
theorem boxes_around_spec (hA : Room 8 A) (X : (hd.heap_39 w.params).In s.heap) (T : Top p loose mean mg mb s.heap) {v : Value} {vs : List Value} {bs : List Box} {has : Addr → Obj → Prop} (hl : ListBy (HH s.heap) v vs)
    (hhas : ∀ a o, has a o → HH s.heap a o) (hp : Paired (BoxBy w.params has) vs bs) (hne : bs ≠ []) (hlen : vs.length ≤ 500)
    (ret : ∀ h' tk tl r, Ext s.heap h' → NewIn s.heap h' tl → BoxBy w.params (HU has tl) r (boxAround bs) → Q r { s with heap := h', toks := tk }) :
    wpAny (model PySem.Challenge.pw_og0152_01 w) A (call (.ref 204) [v]) Q E s := by
  obtain ⟨a, n, rfl, ha⟩ := hl
  unfold HH at ha
  have hlen' : vs.length = bs.length := hp.length
  obtain ⟨hn, dp, fr, gd, un⟩ := A
  obtain rfl : hn = none := hA.handled
  refine wpAny_call ?_
  k_dflt (refine' enterC (binds := [(Str.ofString "boxes", .ref a)]) ?k1 ?k2 ?k6 ?k7 ?k8 ?k9 ?kB ?kD ?_ ?c2 ?c3 ?c4; (case k6 => k_is); (case k7 => k_is); (case k9 => exact BindsTo.of_eq rfl); (case kB => exact rfl); (case kD => decide +kernel); (case c2 => exact rfl); (case c3 => exact rfl); (case c4 => exact rfl))
  (case k1 => assumption)
  (case k2 => assumption)
  (case k8 => exact Room.lt hA)
  intro L' h' tk cells F' N' Y' X' T'
  obtain ⟨ob, rfl, hob⟩ := CellsAre.one Y'
  replace hob : ob.data = .cell (some (.ref a)) := hob
  replace F' : Fr s.heap L' h' (fun _ => none) := F'
  try dsimp only
  try k_fold
  w_on
  k_steps
  --BEGIN
  rename Fr _ _ _ _ => F1
  rename News _ _ _ _ => N1
  rename Addr => T1
  have ht1 : IsTup _ T1 _ := News.isTup N1 (.head _)
  refine comp_cellvar (DecBy w.params has) [lmin (bs.map (side 0)), lmin (bs.map (side 1))] (pre := [(Str.ofString ".0", .local)]) rfl (by decide) (by decide) rfl (fun _ _ => rfl) (Iter.tuple rfl ht1) F1 N1 (src_news (.head _)) rfl (by simp) ?_ ?_
  · intro C D I c oc i u t oC mC oD oI s₁ TT hcc hcL hP ht F₁ N₁ nC off hoc
    obtain ⟨k, tk₀, rfl, rfl, hk⟩ : ∃ k tk₀, u = .int k tk₀ ∧ t = lmin (bs.map (side k)) ∧ (k = 0 ∨ k = 1 ∨ k = 2 ∨ k = 3) := by
      match i, hP, ht with
      | 0, hP, ht => exact ⟨0, _, (Option.some.inj hP).symm, (Option.some.inj ht).symm, by decide⟩
      | 1, hP, ht => exact ⟨1, _, (Option.some.inj hP).symm, (Option.some.inj ht).symm, by decide⟩
      | i + 2, hP, ht => simp at ht
    clear hP ht ht1 F1 N1
    k_steps
    have offC : ∀ q ∈ (D, oD) :: (I, oI) :: (c, oc) :: _, q.1 ≠ C := offC_of TT off
    obtain ⟨oL, nL, FC, NC⟩ := swap_in F₁ N₁ nC offC TT.LC
    refine inner_comp rfl FC X NC (.tail _ (.tail _ (.tail _ (.head _)))) hoc (by k_mem) hob ha hhas hp (by omega) hk rfl rfl rfl fun D2 h2 tk2 ys2 c2 F2 N2 ne2 p2 => ?_
    obtain ⟨oC2, nC2, F3, N3⟩ := swap_out F2 (news_perm N2 swap2) nL (offL_of ne2 N₁) F₁.above
    clear F₁ N₁ FC NC F2 N2
    have hl2 : ys2.length ≤ 1000 := by rw [p2.length, List.length_map]; omega
    have hne2 : bs.map (side k) ≠ [] := by simp [hne]
    k_steps
    rename Fr _ _ _ _ => Fx
    rename News _ _ _ _ => Nx
    rename DecBy _ _ _ (lmin _) => dx
    exact SEnd.mk' Fx (news_perm Nx drop2) nC2 dx
  intro C1 D1 I1 h1 tk1 ys1 mC1 c1 TT1 Fq Nq nq offq p1
  refine fin_local TT1 Fq Nq nq offq rfl rfl fun hh1 tkk1 FF1 NN1 ne1 => ?_
  clear Fq Nq nq offq TT1 ht1 F1 N1 ne1
  obtain _ | ⟨q1a, _ | ⟨q1b, _ | _⟩⟩ := p1
  k_steps
  rename Fr _ _ _ _ => F2
  rename News _ _ _ _ => N2
  rename Addr => T2
  have ht2 : IsTup _ T2 _ := News.isTup N2 (.head _)
  refine comp_cellvar (DecBy w.params has) [lmax (bs.map (side 2)), lmax (bs.map (side 3))] (pre := [(Str.ofString ".0", .local)]) rfl (by decide) (by decide) rfl (fun _ _ => rfl) (Iter.tuple rfl ht2) F2 N2 (src_news (.head _)) rfl (by simp) ?_ ?_
  · intro C D I c oc i u t oC mC oD oI s₁ TT hcc hcL hP ht F₁ N₁ nC off hoc
    obtain ⟨k, tk₀, rfl, rfl, hk⟩ : ∃ k tk₀, u = .int k tk₀ ∧ t = lmax (bs.map (side k)) ∧ (k = 0 ∨ k = 1 ∨ k = 2 ∨ k = 3) := by
      match i, hP, ht with
      | 0, hP, ht => exact ⟨2, _, (Option.some.inj hP).symm, (Option.some.inj ht).symm, by decide⟩
      | 1, hP, ht => exact ⟨3, _, (Option.some.inj hP).symm, (Option.some.inj ht).symm, by decide⟩
      | i + 2, hP, ht => simp at ht
    clear hP ht ht2 F2 N2
    k_steps
    have offC : ∀ q ∈ (D, oD) :: (I, oI) :: (c, oc) :: _, q.1 ≠ C := offC_of TT off
    obtain ⟨oL, nL, FC, NC⟩ := swap_in F₁ N₁ nC offC TT.LC
    refine inner_comp rfl FC X NC (.tail _ (.tail _ (.tail _ (.head _)))) hoc (by k_mem) hob ha hhas hp (by omega) hk rfl rfl rfl fun D2 h2 tk2 ys2 c2 F2 N2 ne2 p2 => ?_
    obtain ⟨oC2, nC2, F3, N3⟩ := swap_out F2 (news_perm N2 swap2) nL (offL_of ne2 N₁) F₁.above
    clear F₁ N₁ FC NC F2 N2
    have hl2 : ys2.length ≤ 1000 := by rw [p2.length, List.length_map]; omega
    have hne2 : bs.map (side k) ≠ [] := by simp [hne]
    k_steps
    rename Fr _ _ _ _ => Fx
    rename News _ _ _ _ => Nx
    rename DecBy _ _ _ (lmax _) => dx
    exact SEnd.mk' Fx (news_perm Nx drop2) nC2 dx
  intro C1 D2 I1 h2 tk2 ys2 mC1 c2 TT1 Fq Nq nq offq p2
  refine fin_local TT1 Fq Nq nq offq rfl rfl fun hh2 tkk2 FF2 NN2 ne2 => ?_
  clear Fq Nq nq offq TT1 ht2 F2 N2 ne2
  obtain _ | ⟨q2a, _ | ⟨q2b, _ | _⟩⟩ := p2
  k_steps
  rename Fr _ _ _ _ => FF
  rename News _ _ _ _ => NN
  rename Addr => TD
  exact ret _ _ [(TD, _)] _ (Fr.keep FF) (newIn_of NN fun q hq => by rw [List.mem_singleton.mp hq]; exact .head _) ⟨TD, 0, _, _, _, _, rfl, .inr (.head _), q1a.mono HU.left, q1b.mono HU.left, q2a.mono HU.left, q2b.mono HU.left⟩
  --END
end
/-! part D7 -/
theorem ne_nil {prog : Program} {w : World} {A : Around} {E : Value → Shared → Prop} {s : Shared} {l b : Addr} {vs : List Value} {Q : Value → Shared → Prop} (hl : s.heap.IsList l vs.toArray) (hb : s.heap.IsList b ([] : List Value).toArray) (hu : A.units < cLine) (h : Q (.bool (decide (vs ≠ []))) s) :
    wpAny (model prog w) A (compareOp .NotEq (.ref l) (.ref b)) Q E s := by
  cases vs with
  | nil => exact SeqAt.RcNeAt.lists (e := fun _ => true) hl hb rfl hu (fun j h1 _ => absurd h1 (by simp)) prog w E Q h
  | cons v r => exact SeqAt.RcNeAt.lists_lengths hl hb (by simp) hu prog w E Q (by simpa using h)
theorem ne_nilT {prog : Program} {w : World} {A : Around} {E : Value → Shared → Prop} {s : Shared} {l b : Addr} {vs : List Value} {Q : Value → Shared → Prop} (hl : s.heap.IsList l vs.toArray) (hv : vs ≠ []) (hb : s.heap.IsList b ([] : List Value).toArray) (hu : A.units < cLine) (h : Q (.bool true) s) :
    wpAny (model prog w) A (compareOp .NotEq (.ref l) (.ref b)) Q E s := ne_nil hl hb hu (by rw [decide_eq_true hv]; exact h)
theorem ne_nilF {prog : Program} {w : World} {A : Around} {E : Value → Shared → Prop} {s : Shared} {l b : Addr} {vs : List Value} {Q : Value → Shared → Prop} (hl : s.heap.IsList l vs.toArray) (hv : vs = []) (hb : s.heap.IsList b ([] : List Value).toArray) (hu : A.units < cLine) (h : Q (.bool false) s) :
    wpAny (model prog w) A (compareOp .NotEq (.ref l) (.ref b)) Q E s := ne_nil hl hb hu (by rw [decide_eq_false (by simpa using hv)]; exact h)
theorem max_twoV {prog : Program} {w : World} {A : Around} {E : Value → Shared → Prop} {s : Shared} {h₀ : Heap} {L : Addr} {m : Str → Option Value} {news : Led} {a b : Int} {t u : Tok} {Q : Value → Shared → Prop} (hh : A.handled = none) (F : Fr h₀ L s.heap m) (N : News h₀ L s.heap news)
    (h : ∀ h' tk v, Fr h₀ L h' m → News h₀ L h' news → Q (.int (max a b) v) { s with heap := h', toks := tk }) : wpAny (model prog w) A (call (.builtin "max") [.int a t, .int b u]) Q E s :=
  max_two_N hh F N fun h' tk F' N' => by
    have e : (if b > a then b else a) = max a b := by split <;> omega
    rw [e]; exact h h' tk _ F' N'
theorem append_top {prog : Program} {w : World} {A : Around} {E : Value → Shared → Prop} {s : Shared} {h₀ : Heap} {L : Addr} {m : Str → Option Value} {l : Addr} {vs : List Value} {n : Nat} {x : Value} {others : Led} {Q : Value → Shared → Prop} (F : Fr h₀ L s.heap m) (N : News h₀ L s.heap ((l, listOf vs.toArray n) :: others)) (h2 : ∀ q ∈ others, q.1 ≠ l) (hz : vs.length ≤ 1000000)
    (k : ∀ h' n', Fr h₀ L h' m → News h₀ L h' ((l, listOf (vs ++ [x]).toArray n') :: others) → Q .none { s with heap := h' }) :
    wpAny (model prog w) A (call (.builtin "list.append") [.ref l, x]) Q E s := by
  have hm := N _ (.head _)
  refine wpAny_list_append_plain ⟨n, hm.1⟩ (fun h' hl hs => ?_) (by rw [List.size_toArray, sizeLine_eq]; omega)
  obtain ⟨n', hn'⟩ := hl
  refine k h' n' ⟨F.ns.sameBut hs (Ne.symm hm.2.1), fun b ob e => hs.extBut b ob (by rintro rfl; rw [hm.2.2] at e; cases e) (F.keep b ob e), F.above⟩ (fun q hq => ?_)
  rcases List.mem_cons.mp hq with rfl | hq
  · exact ⟨by simpa using hn', hm.2⟩
  · exact ⟨hs.extBut _ _ (h2 q hq) (N q (.tail _ hq)).1, (N q (.tail _ hq)).2⟩
theorem Paired.take {α β : Type} {F : α → β → Prop} : ∀ {l₁ : List α} {l₂ : List β} (k : Nat), Paired F l₁ l₂ → Paired F (l₁.take k) (l₂.take k)
  | _, _, 0, _ => by rw [List.take_zero, List.take_zero]; exact .nil
  | _, _, _ + 1, .nil => .nil
  | _, _, k + 1, .cons h t => .cons h (Paired.take k t)
theorem Paired.drop {α β : Type} {F : α → β → Prop} : ∀ {l₁ : List α} {l₂ : List β} (k : Nat), Paired F l₁ l₂ → Paired F (l₁.drop k) (l₂.drop k)
  | _, _, 0, h => h
  | _, _, _ + 1, .nil => .nil
  | _, _, k + 1, .cons _ t => Paired.drop k t
local macro_rules | `(tactic| walk_at "m_units") => `(tactic| exact Room.cl (n := 0) (by first | exact Room.mono (Room.deeper (by assumption)) (by decide) | exact Room.mono (by assumption) (by decide)))
local macro_rules | `(tactic| walk_at "compareOp NotEq ref ref") => `(tactic| (k_here; (with_reducible show wpAny _ _ (compareOp CmpOp.NotEq (Value.ref _) (Value.ref _)) _ _ _); (first | (refine' ne_nilT ?hl ?hv ?hb ?hu ?_; (case hb => exact News.isList (by k_asm) (by k_mem)); (case hl => walk_at "m_lst"); (case hv => assumption); (case hu => walk_at "m_units"); k_whole) | (refine' ne_nilF ?hl ?hv ?hb ?hu ?_; (case hb => exact News.isList (by k_asm) (by k_mem)); (case hl => walk_at "m_lst"); (case hv => assumption); (case hu => walk_at "m_units"); k_whole))))
local macro_rules | `(tactic| walk_at "call builtin:max") => `(tactic| (k_here; (with_reducible show wpAny _ _ (call (Value.builtin _) [Value.int _ _, Value.int _ _]) _ _ _); (refine' max_twoV ?hh ?F ?N ?_; (case hh => with_unfolding_all rfl); (case F => k_asm); (case N => k_asm)); intro h' tk' v' F' N'; (try k_sweep)))
local macro_rules | `(tactic| walk_at "call builtin:list.append") => `(tactic| (k_here; (with_reducible show wpAny _ _ (call (Value.builtin _) [Value.ref _, _]) _ _ _); refine stop_of ?_))
local macro_rules | `(tactic| walk_at "call ref") => `(tactic| (k_here; (refine' box_of_spec ?hA ?X ?T ?hl ?hhas ?hp ?hne ?hlen ?_); (case hA => walk_at "m_room"); (case X => k_in); (case T => walk_at "m_top"); (case hl => exact ⟨_, _, rfl, News.get (by k_asm) (by k_mem)⟩); (case hp => assumption); (case hhas => first | exact has_up (by assumption) (by k_asm) | exact HU.at' (by assumption) (by k_asm) (by k_asm) (by first | assumption | (intro q hq; refine List.Mem.tail _ ?_; revert q; assumption))); (case hne => assumption); (case hlen => assumption); intro h' tk' tl' r' e' nn' hb'; (have O' := new_off (by k_asm) nn'); (obtain ⟨F', N'⟩ := news_more (by k_asm) (by k_asm) e' nn'); clear e' nn'; (try k_sweep)))
/-- the boxes of the rows, and the place where the next row begins -/
def rbStep (first last : Int) (st : List Box × Int) (gs : List Gl) : List Box × Int :=
  let part := (gs.drop (max (first - st.2) 0).toNat).take ((max (last + 1 - st.2) 0).toNat - (max (first - st.2) 0).toNat)
  (if part = [] then st.1 else st.1 ++ [boxOf part], st.2 + gs.length)
def rowBoxes (gss : List (List Gl)) (first last : Int) : List Box := (gss.foldl (rbStep first last) ([], 0)).1
def RowBy (P : Params) (has : Addr → Obj → Prop) (v : Value) (gs : List Gl) : Prop := ∃ vs, ListBy has v vs ∧ Paired (GlyphBy P has) vs gs
theorem ListBy.mono {has has' : Addr → Obj → Prop} {v : Value} {vs : List Value} (k : ∀ a o, has a o → has' a o) (h : ListBy has v vs) : ListBy has' v vs := let ⟨a, n, e, q⟩ := h; ⟨a, n, e, k _ _ q⟩
theorem RowBy.mono {P : Params} {has has' : Addr → Obj → Prop} {v : Value} {gs : List Gl} (k : ∀ a o, has a o → has' a o) (h : RowBy P has v gs) : RowBy P has' v gs := let ⟨vs, l, p⟩ := h; ⟨vs, l.mono k, Paired.mono' (fun _ _ q => q.mono k) p⟩
def rbMap (a FL : Addr) (x y : Value) (u1 u2 : Option Value) (b : Value) : Str → Option Value := fun z => if z = Str.ofString "base" then some b else if z = Str.ofString "part" then u2 else if z = Str.ofString "row" then u1 else if z = Str.ofString "found" then some (.ref FL) else List.lookup z [(Str.ofString "rows", .ref a), (Str.ofString "first", x), (Str.ofString "last", y)].reverse
theorem drop_two {a b : Addr × Obj} {nw : Led} : ∀ q ∈ nw, q ∈ a :: b :: nw := fun _ hq => .tail _ (.tail _ hq)
theorem perm_rb {a b c d : Addr × Obj} {tn tl : Led} : ∀ q ∈ d :: c :: (tn ++ tl), q ∈ tn ++ a :: b :: c :: d :: tl := by
  intro q hq
  simp only [List.mem_cons, List.mem_append] at hq ⊢
  rcases hq with h | h | h | h
  · exact .inr (.inr (.inr (.inr (.inl h))))
  · exact .inr (.inr (.inr (.inl h)))
  · exact .inl h
  · exact .inr (.inr (.inr (.inr (.inr h))))
theorem rbMap_init (a FL : Addr) (x y b : Value) : (fun z => if z = Str.ofString "base" then some b else if z = Str.ofString "found" then some (.ref FL) else List.lookup z [(Str.ofString "rows", .ref a), (Str.ofString "first", x), (Str.ofString "last", y)].reverse) = rbMap a FL x y none none b := by
  funext z
  unfold rbMap
  by_cases e1 : z = Str.ofString "base"
  · rw [if_pos e1, if_pos e1]
  · rw [if_neg e1, if_neg e1]
    by_cases e2 : z = Str.ofString "part"
    · subst e2; rfl
    · rw [if_neg e2]
      by_cases e3 : z = Str.ofString "row"
      · subst e3; rfl
      · rw [if_neg e3]
theorem rbMap_upd (a FL : Addr) (x y b b' : Value) (u1 u2 u1' u2' : Option Value) : (fun z => if z = Str.ofString "base" then some b' else if z = Str.ofString "part" then u2' else if z = Str.ofString "row" then u1' else rbMap a FL x y u1 u2 b z) = rbMap a FL x y u1' u2' b' := by
  funext z
  by_cases e1 : z = Str.ofString "base"
  · subst e1; rfl
  by_cases e2 : z = Str.ofString "part"
  · subst e2; rfl
  by_cases e3 : z = Str.ofString "row"
  · subst e3; rfl
  unfold rbMap
  rw [if_neg e1, if_neg e2, if_neg e3, if_neg e1, if_neg e2, if_neg e3, if_neg e1, if_neg e2, if_neg e3]
theorem rb_len (first last : Int) : ∀ (l : List (List Gl)) (st : List Box × Int), (l.foldl (rbStep first last) st).1.length ≤ st.1.length + l.length
  | [], st => Nat.le_refl _
  | g :: r, st => by
    rw [List.foldl_cons]
    refine Nat.le_trans (rb_len first last r _) ?_
    have : (rbStep first last st g).1.length ≤ st.1.length + 1 := by
      unfold rbStep; dsimp only; split <;> simp
    rw [List.length_cons]; omega
section
variable {p : Program} {loose : List Str} {w : World} {mean : ExcName → Option Value} {mg mb : Str → Option Value} {A : Around} {s : Shared} {Q E : Value → Shared → Prop}
theorem row_boxes_spec (hA : Room 10 A) (X : (hd.heap_39 w.params).In s.heap) (T : Top p loose mean mg mb s.heap) {v : Value} {rvs : List Value} {gss : List (List Gl)} {has : Addr → Obj → Prop} {first last : Int} {t1 t2 : Tok} (hl : ListBy (HH s.heap) v rvs)
    (hhas : ∀ a o, has a o → HH s.heap a o) (hp : Paired (RowBy w.params has) rvs gss) (hlen : gss.length ≤ 100) (hrow : ∀ gs ∈ gss, gs.length ≤ 100) (hf : 0 ≤ first ∧ first ≤ 100000) (hla : -1 ≤ last ∧ last ≤ 100000)
    (ret : ∀ h' tk tl r bvs n, Ext s.heap h' → NewIn s.heap h' ((r, listOf bvs.toArray n) :: tl) → (∀ q ∈ tl, q.1 ≠ r) → Paired (BoxBy w.params (HU has tl)) bvs (rowBoxes gss first last) → Q (.ref r) { s with heap := h', toks := tk }) :
    wpAny (model PySem.Challenge.pw_og0152_01 w) A (call (.ref 211) [v, .int first t1, .int last t2]) Q E s := by
  obtain ⟨a, n, rfl, ha⟩ := hl
  unfold HH at ha
  have hls : s.heap.IsList a rvs.toArray := ⟨_, ha, rfl, n, rfl⟩
  have hlen' : rvs.length = gss.length := hp.length
  obtain ⟨hn, dp, fr, gd, un⟩ := A
  obtain rfl : hn = none := hA.handled
  refine wpAny_call ?_
  k_dflt (refine' enter (binds := [(Str.ofString "rows", .ref a), (Str.ofString "first", .int first t1), (Str.ofString "last", .int last t2)]) ?k1 ?k2 ?k6 ?k7 ?k8 ?k9 ?kB ?_ ?c2 ?c3 ?c4 ?c5; walk_at "m_in")
  walk_at "m_pure"
  k_steps
  rename Fr _ _ _ _ => F
  rename News _ _ _ _ => N
  rename Addr => FL
  replace N : News s.heap _ _ [(FL, listOf ([] : List Value).toArray 0)] := N
  refine for_rule (fun i m nw => ∃ u1 u2 t bvs n tl, m = rbMap a FL (.int first t1) (.int last t2) u1 u2 (.int ((gss.take i).foldl (rbStep first last) ([], 0)).2 t) ∧ nw = (FL, listOf bvs.toArray n) :: tl ∧ (∀ q ∈ tl, q.1 ≠ FL) ∧ Paired (BoxBy w.params (HU has tl)) bvs ((gss.take i).foldl (rbStep first last) ([], 0)).1) (Iter.list rfl (Fr.lst F hls)) F N ?_ ?_ ?_ ?_
  · intro b hb
    rw [List.mem_singleton.mp hb]
    exact .inl ⟨_, ha⟩
  · exact ⟨none, none, _, [], 0, [], rbMap_init _ _ _ _ _, rfl, (fun _ h => nomatch h), .nil⟩
  · rintro i u m₁ nw₁ I oI s₁ hi hP ⟨u1, u2, t, bvs, nb, tl, rfl, rfl, htl, hb⟩ F₁ N₁ hd₁
    obtain ⟨gs, hgs, vs, ⟨ra, rn, rfl, hra⟩, hpv⟩ := paired_get hp (by simpa using hP)
    clear F N
    have hrl : s.heap.IsList ra vs.toArray := ⟨_, hhas _ _ hra, rfl, rn, rfl⟩
    have hst : (gss.take (i + 1)).foldl (rbStep first last) ([], 0) = rbStep first last ((gss.take i).foldl (rbStep first last) ([], 0)) gs := by
      rw [List.take_add_one, hgs, List.foldl_append]; rfl
    rw [hst]
    have hbl : bvs.length ≤ i := by
      rw [hb.length]
      exact Nat.le_trans (rb_len _ _ _ _) (by rw [List.length_take]; show 0 + min i gss.length ≤ i; omega)
    have hbl2 : bvs.length ≤ 1000 := by rw [List.size_toArray] at hi; omega
    clear hbl
    generalize (gss.take i).foldl (rbStep first last) ([], 0) = st at *
    obtain ⟨bs, b⟩ := st
    dsimp only at hb F₁ ⊢
    have hgl : gs.length ≤ 100 := hrow gs (List.mem_of_getElem? hgs)
    have hvl : vs.length = gs.length := hpv.length
    have hpp := Paired.take ((max (last + 1 - b) 0).toNat - (max (first - b) 0).toNat) (Paired.drop (max (first - b) 0).toNat hpv)
    have hz : ((vs.drop (max (first - b) 0).toNat).take ((max (last + 1 - b) 0).toNat - (max (first - b) 0).toNat)).length ≤ 500 := by
      rw [List.length_take, List.length_drop]; omega
    by_cases hem : (gs.drop (max (first - b) 0).toNat).take ((max (last + 1 - b) 0).toNat - (max (first - b) 0).toNat) = []
    · have hvem : (vs.drop (max (first - b) 0).toNat).take ((max (last + 1 - b) 0).toNat - (max (first - b) 0).toNat) = [] := by
        have := hpp.length
        rw [hem] at this
        exact List.length_eq_zero_iff.mp this
      k_steps
      rename Fr _ _ _ _ => FF
      rename News _ _ _ _ => NN
      have e1 : rbStep first last (bs, b) gs = (bs, b + gs.length) := by unfold rbStep; dsimp only; rw [if_pos hem]
      rw [rbMap_upd] at FF
      refine TurnEnd.mk' FF (news_perm NN drop_two) hd₁ ⟨_, _, _, bvs, nb, tl, by rw [e1, hvl], rfl, htl, by rw [e1]; exact hb⟩
    · have hvne : (vs.drop (max (first - b) 0).toNat).take ((max (last + 1 - b) 0).toNat - (max (first - b) 0).toNat) ≠ [] := fun e => by
        have := hpp.length
        rw [e] at this
        exact hem (List.length_eq_zero_iff.mp this.symm)
      k_steps
      rename BoxBy _ _ _ _ => hnb
      rename Fr _ _ _ _ => FF
      rename News _ _ _ _ => NN
      rename Led => tn
      have e1 : rbStep first last (bs, b) gs = (bs ++ [boxOf ((gs.drop (max (first - b) 0).toNat).take ((max (last + 1 - b) 0).toNat - (max (first - b) 0).toNat))], b + gs.length) := by unfold rbStep; dsimp only; rw [if_neg hem]
      have OO : ∀ q ∈ tn, ∀ r ∈ (I, oI) :: (FL, listOf bvs.toArray nb) :: tl, q.1 ≠ r.1 := fun q hq r hr => (by assumption : ∀ q ∈ tn, ∀ r ∈ _ :: _ :: (I, oI) :: (FL, listOf bvs.toArray nb) :: tl, q.1 ≠ r.1) q hq r (.tail _ (.tail _ hr))
      have hoth : ∀ q ∈ (I, oI) :: (tn ++ tl), q.1 ≠ FL := fun q hq => by
        rcases List.mem_cons.mp hq with rfl | hq
        · exact Ne.symm (hd₁ _ (.head _))
        rcases List.mem_append.mp hq with hq | hq
        · exact OO q hq _ (.tail _ (.head _))
        · exact htl q hq
      have hI' : ∀ q ∈ tn ++ tl, q.1 ≠ I := fun q hq => by
        rcases List.mem_append.mp hq with hq | hq
        · exact OO q hq _ (.head _)
        · exact hd₁ q (.tail _ hq)
      refine append_top FF (news_perm (b := (FL, listOf bvs.toArray nb) :: (I, oI) :: (tn ++ tl)) NN perm_rb) hoth (by omega) fun h2 n2 F2 N2 => ?_
      clear FF NN
      k_steps
      rename Fr _ _ _ _ => FF
      rename News _ _ _ _ => NN
      rw [rbMap_upd] at FF
      refine TurnEnd.mk' FF (news_perm NN swap2) (fun q hq => ?_) ⟨_, _, _, bvs ++ [_], n2, tn ++ tl, by rw [e1, hvl], rfl, (fun q hq => hoth q (.tail _ hq)), ?_⟩
      · rcases List.mem_cons.mp hq with rfl | hq
        · exact (hd₁ (FL, listOf bvs.toArray nb) (.head _) : FL ≠ I)
        · exact hI' q hq
      · rw [e1]
        exact Paired.snoc (Paired.mono' (fun _ _ h => h.mono (HU.grow fun q hq => mem_appR hq)) hb) (hnb.mono (HU.grow fun q hq => mem_appL hq))
  · rintro m' nw' h' tk ⟨u1, u2, t, bvs, nb, tl, rfl, rfl, htl, hb⟩ F₁ N₁
    clear F N
    have hlt : rvs.toArray.size = gss.length := by rw [List.size_toArray]; exact hlen'
    rw [hlt, List.take_length] at hb
    dsimp only
    k_steps
    exact ret _ _ tl _ bvs nb (Fr.keep (by assumption)) (newIn_of N₁ fun q hq => hq) htl hb
end
/-! part G1 -/
section
variable {p : Program} {loose : List Str} {w : World} {mean : ExcName → Option Value} {mg mb : Str → Option Value} {A : Around} {s : Shared} {Q E : Value → Shared → Prop}
theorem ginit_spec {R : Result → Shared → Prop} (hA : A.depth < recursionLimit) {x d : Addr} {vt vx vy vw vh : Value} (hx : s.heap.get? x = some (instObj 235 d)) (hdd : s.heap.get? d = some (dictOf [] 0)) (l : d < x)
   (X : (hd.heap_39 w.params).In (hideAll s.heap [x, d])) (T : Top p loose mean mg mb (hideAll s.heap [x, d]))
   (ret : ∀ h' tk t1 t2 t3 t4 t5, Ext (hideAll s.heap [x, d]) h' → h'.get? x = some (instObj 235 d) → h'.get? d = some (glD w.params vt vx vy vw vh t1 t2 t3 t4 t5) → R (.ok (.ret .none)) { s with heap := h', toks := tk }) :
   codeAny (model PySem.Challenge.pw_og0152_01 w) A (.call (.ref 225) ⟨[.ref x, vt, vx, vy, vw, vh], []⟩) R s := by
  have k0 : ∀ q ∈ ([(x, instObj 235 d), (d, dictOf [] 0)] : Led), s.heap.get? q.1 = some q.2 := by
    intro q hq
    rcases List.mem_cons.mp hq with rfl | hq
    · exact hx
    · rw [List.mem_singleton.mp hq]; exact hdd
  k_dflt (refine' enterN (binds := [(Str.ofString "self", .ref x), (Str.ofString "text", vt), (Str.ofString "x", vx), (Str.ofString "y", vy), (Str.ofString "width", vw), (Str.ofString "size", vh)]) [(x, instObj 235 d), (d, dictOf [] 0)] ?k0 ?k1 ?k2 ?k6 ?k7 ?k8 ?k9 ?kB ?_ ?c2 ?c3 ?c4 ?c5; walk_at "m_in")
  case k0 => exact k0
  case k1 => exact X
  case k2 => exact T
  case k8 => exact hA
  intro g L' h' hg F' N' X' T' ol
  clear ol
  replace l := ltN l
  try dsimp only
  try k_fold
  w_on
  k_steps
  rename Fr _ _ _ _ => FF
  rename News _ _ _ _ => NN
  subst hg
  exact ret _ _ _ _ _ _ _ FF.keep (NN _ (.head _)).1 (NN _ (.tail _ (.head _))).1
theorem glyph_new (hA : Room 2 A) {vt vx vy vw vh : Value} {g : Gl} (X : (hd.heap_39 w.params).In s.heap) (T : Top p loose mean mg mb s.heap) {has : Addr → Obj → Prop} (hx : DecBy w.params has vx g.x) (hy : DecBy w.params has vy g.y) (hw : DecBy w.params has vw g.w) (hh : DecBy w.params has vh g.h)
   (ret : ∀ h' tk tl r, Ext s.heap h' → NewIn s.heap h' tl → GlyphBy w.params (HU has tl) r g → Q r { s with heap := h', toks := tk }) :
   wpAny (model PySem.Challenge.pw_og0152_01 w) A (call (.ref 235) [vt, vx, vy, vw, vh]) Q E s := by
  refine wpAny_call (make_new X (by k_is) (by k_is) (by k_is) fun x d h' e nx nd hx' hdd l => ?_)
  have eg : Ext s.heap (hideAll h' [x, d]) := ext_hideAll e fun a ha => by
    rcases List.mem_cons.mp ha with rfl | ha
    · exact nx
    · rw [List.mem_singleton.mp ha]; exact nd
  refine ginit_spec (s := { s with heap := h' }) (by rw [depth_under_make]; have := hA.depth; show A.depth + 1 < 1000; omega) hx' hdd l (frag_keeps X eg) (top_keeps T eg) fun h₂ tk t1 t2 t3 t4 t5 e2 hx2 hd2 => ⟨rfl, ?_⟩
  refine ret h₂ tk [(x, instObj 235 d), (d, glD w.params vt vx vy vw vh t1 t2 t3 t4 t5)] (.ref x) (eg.trans e2) ?_ ⟨x, d, vt, vx, vy, vw, vh, t1, t2, t3, t4, t5, rfl, .inr (.head _), .inr (.tail _ (.head _)), hx.mono HU.left, hy.mono HU.left, hw.mono HU.left, hh.mono HU.left⟩
  intro q hq
  rcases List.mem_cons.mp hq with rfl | hq
  · exact ⟨hx2, nx⟩
  · rw [List.mem_singleton.mp hq]; exact ⟨hd2, nd⟩
end
/-! part G2 -/
section
variable {p : Program} {loose : List Str} {w : World} {mean : ExcName → Option Value} {mg mb : Str → Option Value} {A : Around} {s : Shared} {Q E : Value → Shared → Prop}
theorem draw_spec (hA : Room 1 A) {Ta cl : Addr} {at' limit : Int} {ta tl : Tok} {n c : Nat} {vs : List Value} {ns : List Int}
    (hT : s.heap.get? Ta = some (listOf [.ref cl, .int at' ta].toArray n)) (hcl : s.heap.get? cl = some (listOf vs.toArray c)) (hne : cl ≠ Ta) (hi : IntsAre vs ns) (hn : 1 ≤ ns.length ∧ ns.length ≤ 1000) (hat : 0 ≤ at' ∧ at' ≤ 1000) (hlim : 1 ≤ limit ∧ limit ≤ 1000)
    (X : (hd.heap_39 w.params).In (hideAll s.heap [Ta])) (T : Top p loose mean mg mb (hideAll s.heap [Ta]))
    (ret : ∀ h' tk r t t' n', (∀ b o, b ≠ Ta → s.heap.get? b = some o → h'.get? b = some o) → h'.get? Ta = some (listOf [.ref cl, .int (at' + 1) t'].toArray n') → 0 ≤ r ∧ r < limit → Q (.int r t) { s with heap := h', toks := tk }) :
    wpAny (model PySem.Challenge.pw_og0152_01 w) A (call (.ref 246) [.ref Ta, .int limit tl]) Q E s := by
  obtain ⟨hnn, dp, fr, gd, un⟩ := A
  obtain rfl : hnn = none := hA.handled
  refine wpAny_call ?_
  k_dflt (refine' enterN (binds := [(Str.ofString "tape", .ref Ta), (Str.ofString "limit", .int limit tl)]) [(Ta, listOf [.ref cl, .int at' ta].toArray n)] ?k0 ?k1 ?k2 ?k6 ?k7 ?k8 ?k9 ?kB ?_ ?c2 ?c3 ?c4 ?c5; walk_at "m_in")
  case k0 =>
    intro q hq
    rw [List.mem_singleton.mp hq]; exact hT
  case k1 => exact X
  case k2 => exact T
  case k8 => exact Room.lt hA
  intro g L' h' hg F' N' X' T' ol
  clear ol
  have hcg : g.get? cl = some (listOf vs.toArray c) := by rw [hg]; exact hideAll_get _ hcl (by simpa using hne)
  have hls : g.IsList cl vs.toArray := ⟨_, hcg, rfl, c, rfl⟩
  have hvl : vs.length ≤ 1000 := by rw [hi.length]; exact hn.2
  try dsimp only
  try k_fold
  w_on
  k_steps
  rename Fr _ _ _ _ => FF
  rename News _ _ _ _ => NN
  refine ret _ _ _ _ _ _ (fun b o hb e => FF.keep _ _ (by rw [hg]; exact hideAll_get _ e (by simpa using hb))) (NN _ (.head _)).1 ⟨?_, ?_⟩
  · rw [Int.fmod_eq_emod_of_nonneg _ (by omega)]; exact Int.emod_nonneg _ (by omega)
  · rw [Int.fmod_eq_emod_of_nonneg _ (by omega)]; exact Int.emod_lt_of_pos _ (by omega)
end
/-! part G3 -/
section
variable {p : Program} {loose : List Str} {w : World} {mean : ExcName → Option Value} {mg mb : Str → Option Value} {A : Around} {s : Shared} {Q E : Value → Shared → Prop}
theorem draw_use (hA : Room 1 A) {h₀ : Heap} {L Ta cl : Addr} {m : Str → Option Value} {nw : Led} {g : Obj → Led} {at' limit : Int} {ta tl : Tok} {n c : Nat} {vs : List Value} {ns : List Int}
    (F : Fr h₀ L s.heap m) (X : (hd.heap_39 w.params).In h₀) (T : Top p loose mean mg mb h₀) (N : News h₀ L s.heap nw) (U : UpdF Ta (listOf [.ref cl, .int at' ta].toArray n) nw g)
    (hcl : s.heap.get? cl = some (listOf vs.toArray c)) (hne : cl ≠ Ta) (hi : IntsAre vs ns) (hn : 1 ≤ ns.length ∧ ns.length ≤ 1000) (hat : 0 ≤ at' ∧ at' ≤ 1000) (hlim : 1 ≤ limit ∧ limit ≤ 1000)
    (ret : ∀ h' tk r t t' n', Fr h₀ L h' m → News h₀ L h' (g (listOf [.ref cl, .int (at' + 1) t'].toArray n')) → 0 ≤ r ∧ r < limit → Q (.int r t) { s with heap := h', toks := tk }) :
    wpAny (model PySem.Challenge.pw_og0152_01 w) A (call (.ref 246) [.ref Ta, .int limit tl]) Q E s := by
  obtain ⟨own, rest, rfl, hg, h1, h2⟩ := U.split
  have hm := N (Ta, _) (mem_appR (.head _))
  have eg : Ext h₀ (hideAll s.heap [Ta]) := ext_hideAll F.keep fun a ha => by rw [List.mem_singleton.mp ha]; exact hm.2.2
  refine draw_spec hA hm.1 hcl hne hi hn hat hlim (frag_keeps X eg) (top_keeps T eg) fun h' tk r t t' n' hk hT hr => ?_
  refine ret h' tk r t t' n' ⟨F.ns.at' fun o e => hk _ o (Ne.symm hm.2.1) e, fun b o e => hk b o (by rintro rfl; rw [hm.2.2] at e; cases e) (F.keep b o e), F.above⟩ ?_ hr
  rw [hg]
  intro q hq
  rcases List.mem_append.mp hq with hq | hq
  · exact ⟨hk _ _ (h1 q hq) (N q (mem_appL hq)).1, (N q (mem_appL hq)).2⟩
  rcases List.mem_cons.mp hq with rfl | hq
  · exact ⟨hT, hm.2⟩
  · exact ⟨hk _ _ (h2 q hq) (N q (mem_appR (.tail _ hq))).1, (N q (mem_appR (.tail _ hq))).2⟩
end
/-! part G4 -/
local macro_rules | `(tactic| k_all) => `(tactic| with_reducible assumption)
local macro_rules | `(tactic| walk_at "call ref") => `(tactic| (k_here; (refine' draw_use ?hA ?F ?X ?T ?N ?U ?hcl ?hne ?hi ?hn ?hat ?hlim ?_); (case hA => walk_at "m_room"); (case F => k_asm); (case X => assumption); (case T => assumption); (case N => k_asm); (case U => k_updF); (case hcl => first | exact Fr.keep (by k_asm) _ _ (by assumption) | exact News.get (by k_asm) (by k_mem)); (case hne => assumption); (case hi => assumption); (case hn => assumption); (case hat => omega); (case hlim => omega); intro h' tk' r' t' t2' n' F' N' hr'; (try dsimp only at N'); (try k_sweep)))
local macro_rules | `(tactic| walk_at "exec For Name Call cons nil") => `(tactic| (k_here; (refine' for_start ?_ ?hs; (case hs => intro _; with_unfolding_all rfl))))
local macro_rules | `(tactic| walk_at "call type:range") => `(tactic| (k_here; (with_reducible show wpAny _ _ (call (Value.type "range") [Value.int _ _]) _ _ _); (refine' range1_rows (h₀ := ?h0) (L := ?L0) (m := ?m0) ?F (news := ?nw) ?N ?_; (case F => k_asm); (case N => k_asm)); intro h' tk' t1' u1' v1' R' F' N' e'; clear e'; (try k_sweep)))
def QuadBy (has : Addr → Obj → Prop) (v : Value) (g : Gl) : Prop := ∃ a n x1 x2 x3 x4, v = .ref a ∧ has a (tupOf #[.int g.x x1, .int g.y x2, .int g.w x3, .int g.h x4] n)
theorem QuadBy.mono {has has' : Addr → Obj → Prop} {v : Value} {g : Gl} (k : ∀ a o, has a o → has' a o) (h : QuadBy has v g) : QuadBy has' v g := let ⟨a, n, x1, x2, x3, x4, e, q⟩ := h; ⟨a, n, x1, x2, x3, x4, e, k _ _ q⟩
def lrMap (Ta R : Addr) (u : Option Value) : Str → Option Value := fun z => if z = Str.ofString "k" then u else if z = Str.ofString "row" then some (.ref R) else List.lookup z [(Str.ofString "tape", .ref Ta)].reverse
theorem lrMap_init (Ta R : Addr) : (fun z => if z = Str.ofString "row" then some (.ref R) else List.lookup z [(Str.ofString "tape", .ref Ta)].reverse) = lrMap Ta R none := by
  funext z
  unfold lrMap
  by_cases e2 : z = Str.ofString "k"
  · subst e2; rfl
  · rw [if_neg e2]
theorem lrMap_upd (Ta R : Addr) (u : Option Value) (v : Option Value) : (fun z => if z = Str.ofString "k" then v else lrMap Ta R u z) = lrMap Ta R v := by
  funext z
  by_cases e1 : z = Str.ofString "k"
  · subst e1; rfl
  unfold lrMap
  rw [if_neg e1, if_neg e1, if_neg e1]
theorem lr_perm {d i r t : Addr × Obj} {tl : Led} : ∀ q ∈ r :: d :: i :: t :: tl, q ∈ d :: i :: r :: t :: tl := by
  intro q hq
  simp only [List.mem_cons] at hq ⊢
  rcases hq with h | h | h | h
  · exact .inr (.inr (.inl h))
  · exact .inl h
  · exact .inr (.inl h)
  · exact .inr (.inr (.inr h))
theorem lr_perm2 {d i r t : Addr × Obj} {tl : Led} : ∀ q ∈ i :: r :: t :: d :: tl, q ∈ r :: d :: i :: t :: tl := by
  intro q hq
  simp only [List.mem_cons] at hq ⊢
  rcases hq with h | h | h | h | h
  · exact .inr (.inr (.inl h))
  · exact .inl h
  · exact .inr (.inr (.inr (.inl h)))
  · exact .inr (.inl h)
  · exact .inr (.inr (.inr (.inr h)))
section
variable {p : Program} {loose : List Str} {w : World} {mean : ExcName → Option Value} {mg mb : Str → Option Value} {A : Around} {s : Shared} {Q E : Value → Shared → Prop}
theorem law_row_spec (hA : Room 3 A) {Ta cl : Addr} {at' : Int} {ta : Tok} {n c : Nat} {vs : List Value} {ns : List Int}
    (hT : s.heap.get? Ta = some (listOf [.ref cl, .int at' ta].toArray n)) (hcl : s.heap.get? cl = some (listOf vs.toArray c)) (hne : cl ≠ Ta) (hi : IntsAre vs ns) (hn : 1 ≤ ns.length ∧ ns.length ≤ 1000) (hat : 0 ≤ at' ∧ at' ≤ 900)
    (X : (hd.heap_39 w.params).In (hideAll s.heap [Ta])) (T : Top p loose mean mg mb (hideAll s.heap [Ta]))
    (ret : ∀ h' tk R bvs nR gs tl at₂ t n', (∀ b o, b ≠ Ta → s.heap.get? b = some o → h'.get? b = some o) → h'.get? Ta = some (listOf [.ref cl, .int at₂ t].toArray n') → at' ≤ at₂ ∧ at₂ ≤ at' + 17 →
      NewIn s.heap h' ((R, listOf bvs.toArray nR) :: tl) → Paired (QuadBy (ML tl)) bvs gs → 1 ≤ gs.length ∧ gs.length ≤ 4 → Q (.ref R) { s with heap := h', toks := tk }) :
    wpAny (model PySem.Challenge.pw_og0152_01 w) A (call (.ref 253) [.ref Ta]) Q E s := by
  obtain ⟨hnn, dp, fr, gd, un⟩ := A
  obtain rfl : hnn = none := hA.handled
  refine wpAny_call ?_
  k_dflt (refine' enterN (binds := [(Str.ofString "tape", .ref Ta)]) [(Ta, listOf [.ref cl, .int at' ta].toArray n)] ?k0 ?k1 ?k2 ?k6 ?k7 ?k8 ?k9 ?kB ?_ ?c2 ?c3 ?c4 ?c5; walk_at "m_in")
  case k0 =>
    intro q hq
    rw [List.mem_singleton.mp hq]; exact hT
  case k1 => exact X
  case k2 => exact T
  case k8 => exact Room.lt hA
  intro g L' h' hg F' N' X' T' ol
  clear ol
  have hcg : g.get? cl = some (listOf vs.toArray c) := by rw [hg]; exact hideAll_get _ hcl (by simpa using hne)
  try dsimp only
  try k_fold
  w_on
  k_steps
  rename_i R _ _ _ _ _ _ _ _ _ _ _ _ _ _ _ _ _ _
  rename IsRange _ _ _ _ _ _ _ _ => RR
  rename 0 ≤ _ ∧ _ < (4 : Int) => hr4
  rename Fr _ _ _ _ => F
  rename News _ _ _ _ => N
  rename Int => r
  refine stop_of ?_
  have hRT : R ≠ Ta := Nat.ne_of_gt (by assumption)
  rw [lrMap_init] at F
  dsimp only at RR F N ⊢
  refine for_rule (n := (1 + r).toNat) (fun i m nw => ∃ u at₂ t bvs nR nT gs tl, m = lrMap Ta R u ∧ nw = (R, listOf bvs.toArray nR) :: (Ta, listOf [.ref cl, .int at₂ t].toArray nT) :: tl ∧ at₂ = at' + 1 + 4 * i ∧ (∀ q ∈ tl, q.1 ≠ R ∧ q.1 ≠ Ta) ∧ Paired (QuadBy (ML tl)) bvs gs ∧ gs.length = i) (Iter.range rfl RR (by omega) (small_one (by decide) (by decide) (by omega) (by omega))) F N (fun b hb => nomatch hb) ?_ ?_ ?_ ?_
  · exact ⟨none, _, _, [], 0, _, [], [], rfl, rfl, by omega, (fun _ h => nomatch h), .nil, rfl⟩
  · rintro i u m₁ nw₁ I oI s₁ hi' ⟨tu, rfl⟩ ⟨u1, at₂, t, bvs, nR, nT, gs, tl, rfl, rfl, hat₂, htl, hb, hgl⟩ F₁ N₁ hd₁
    clear F N RR
    have hIR : R ≠ I := hd₁ _ (.head _)
    have hIT : I ≠ Ta := Ne.symm (hd₁ (Ta, _) (.tail _ (.head _)))
    have hTt : ∀ q ∈ tl, q.1 ≠ Ta := fun q hq => (htl q hq).2
    k_steps
    rename_i D hD FF NN l1
    refine stop_of ?_
    obtain ⟨l1, l2, l3, l4⟩ := l1
    have hTi : ∀ q ∈ tl, q.1 ≠ I := fun q hq => hd₁ q (.tail _ (.tail _ hq))
    have hbl : bvs.length ≤ 1000 := by rw [hb.length]; omega
    refine append_top FF (news_perm NN lr_perm) ?_ (by omega) fun h2 n2 F2 N2 => ?_
    · intro q hq
      rcases List.mem_cons.mp hq with rfl | hq
      · exact Nat.ne_of_gt l2
      rcases List.mem_cons.mp hq with rfl | hq
      · exact Ne.symm hIR
      rcases List.mem_cons.mp hq with rfl | hq
      · exact Ne.symm hRT
      · exact (htl q hq).1
    clear FF NN F₁ N₁
    k_steps
    rename Fr _ _ _ _ => FF
    rename News _ _ _ _ => NN
    rw [lrMap_upd] at FF
    refine TurnEnd.mk' FF (news_perm NN lr_perm2) (fun q hq => ?_) ⟨_, _, _, bvs ++ [.ref D], n2, _, gs ++ [⟨_, _, _, _⟩], _ :: tl, rfl, rfl, by omega, fun q hq => ?_, Paired.snoc (Paired.mono' (fun _ _ h => h.mono fun _ _ h => .tail _ h) hb) ⟨D, _, _, _, _, _, rfl, .head _⟩, by rw [List.length_append, hgl]; rfl⟩
    · rcases List.mem_cons.mp hq with rfl | hq
      · exact hIR
      rcases List.mem_cons.mp hq with rfl | hq
      · exact Ne.symm hIT
      rcases List.mem_cons.mp hq with rfl | hq
      · exact Nat.ne_of_gt l1
      · exact hTi q hq
    · rcases List.mem_cons.mp hq with rfl | hq
      · exact ⟨Nat.ne_of_gt l2, Nat.ne_of_gt l3⟩
      · exact htl q hq
  · rintro m' nw' h' tk ⟨u1, at₂, t, bvs, nR, nT, gs, tl, rfl, rfl, hat₂, htl, hb, hgl⟩ F₁ N₁
    clear F N RR
    k_steps
    dsimp only
    refine ret _ _ R bvs nR gs tl at₂ t nT (fun b o hb' e => F₁.keep _ _ (by rw [hg]; exact hideAll_get _ e (by simpa using hb'))) (N₁ _ (.tail _ (.head _))).1 ⟨by omega, by omega⟩ ?_ hb ⟨by omega, by omega⟩
    intro q hq
    have hq' : q ∈ (R, listOf bvs.toArray nR) :: (Ta, listOf [.ref cl, .int at₂ t].toArray nT) :: tl := by
      rcases List.mem_cons.mp hq with rfl | hq
      · exact .head _
      · exact .tail _ (.tail _ hq)
    have hqT : q.1 ≠ Ta := by
      rcases List.mem_cons.mp hq with rfl | hq
      · exact hRT
      · exact (htl q hq).2
    refine ⟨(N₁ q hq').1, ?_⟩
    cases e : s.heap.get? q.1 with
    | none => rfl
    | some o =>
      have := (N₁ q hq').2.2
      rw [hg, hideAll_get _ e (by simpa using hqT)] at this
      cases this
  · intro it v
    rfl
end
/-! part G5 -/
section
variable {w : World} {A : Around} {s : Shared}
theorem asg_tup4 {h₀ : Heap} {L : Addr} {m : Str → Option Value} {rest : Led} {cenv : Env} {C : Addr} {oC : Obj} {mC : Str → Option Value} {x1 x2 x3 x4 : Str} {p1 p2 p3 p4 pos : Pos} {xc} {t : Addr} {v1 v2 v3 v4 : Value} {n : Nat} {Q : Unit → Shared → Prop} {E : Value → Shared → Prop}
    (hh : A.handled = none) (ht : s.heap.get? t = some (tupOf #[v1, v2, v3, v4] n))
    (F : Fr h₀ L s.heap m) (N : News h₀ L s.heap ((C, oC) :: rest)) (hC : NsO oC mC) (off : ∀ q ∈ rest, q.1 ≠ C) (hCL : C ≠ L) (hC0 : h₀.get? C = none) (hl : cenv.locals = C)
    (hk1 : cenv.kindOf x1 = some .local) (hk2 : cenv.kindOf x2 = some .local) (hk3 : cenv.kindOf x3 = some .local) (hk4 : cenv.kindOf x4 = some .local) (hp : (cenv.scope.kind == .class || (cenv.scope.kind == .module && cenv.locals != cenv.globals)) = false)
    (k : ∀ oC' h' tk, Fr h₀ L h' m → News h₀ L h' ((C, oC') :: rest) → NsO oC' (fun y => if y = x4 then some v4 else if y = x3 then some v3 else if y = x2 then some v2 else if y = x1 then some v1 else mC y) → Q () { s with heap := h', toks := tk }) :
    wpAny (model PySem.Challenge.pw_og0152_01 w) A (assign (.Tuple [.Name x1 p1, .Name x2 p2, .Name x3 p3, .Name x4 p4] xc pos) cenv (.ref t)) Q E s := by
  refine wpAny_assign_Tuple hh (items := #[v1, v2, v3, v4]) ⟨_, ht, rfl, n, rfl⟩ rfl rfl fun h' hs => ?_
  have old : ∀ b o, s.heap.get? b = some o → h'.get? b = some o := fun b o e => hs b o (Nat.ne_of_lt (Heap.lt_size e)) e
  have F0 : Fr h₀ L h' m := ⟨F.ns.at' fun o e => old _ o e, fun b o e => old b o (F.keep b o e), F.above⟩
  have N0 : News h₀ L h' ((C, oC) :: rest) := fun q hq => ⟨old _ _ (N q hq).1, (N q hq).2⟩
  refine assignInOrder_cons (asg_name (s := { s with heap := h' }) F0 N0 hC off hCL hC0 hl hk1 hp fun o1 h1 F1 N1 n1 => ?_)
  refine assignInOrder_cons (asg_name (s := { s with heap := h1, toks := _ }) F1 N1 n1 off hCL hC0 hl hk2 hp fun o2 h2 F2 N2 n2 => ?_)
  refine assignInOrder_cons (asg_name (s := { s with heap := h2, toks := _ }) F2 N2 n2 off hCL hC0 hl hk3 hp fun o3 h3 F3 N3 n3 => ?_)
  refine assignInOrder_cons (asg_name (s := { s with heap := h3, toks := _ }) F3 N3 n3 off hCL hC0 hl hk4 hp fun o4 h4 F4 N4 n4 => ?_)
  exact assignInOrder_nil (k o4 h4 _ F4 N4 n4)
/-- the turn of a block with four names -/
theorem pure_tup4 {h₀ : Heap} {L : Addr} {m : Str → Option Value} {nw₁ : Led} {scope : Scope} {cl : List (Str × Addr)} {env : Env} {C D I : Addr} {oC oD oI : Obj} {mC : Str → Option Value} {x1 x2 x3 x4 : Str} {p1 p2 p3 p4 pos : Pos} {xc} {t : Addr} {v1 v2 v3 v4 : Value} {n : Nat} {elt : Expr} {G : Value → Shared → Prop}
    (hh : A.handled = none) (ht : s.heap.get? t = some (tupOf #[v1, v2, v3, v4] n))
    (F : Fr h₀ L s.heap m) (N : News h₀ L s.heap ((C, oC) :: (D, oD) :: (I, oI) :: nw₁)) (hC : NsO oC mC) (off : Off C D I nw₁) (TT : Three h₀ L C D I)
    (hk1 : (compEnvC scope cl C env).kindOf x1 = some .local) (hk2 : (compEnvC scope cl C env).kindOf x2 = some .local) (hk3 : (compEnvC scope cl C env).kindOf x3 = some .local) (hk4 : (compEnvC scope cl C env).kindOf x4 = some .local) (hp : ((compEnvC scope cl C env).scope.kind == .class || ((compEnvC scope cl C env).scope.kind == .module && (compEnvC scope cl C env).locals != (compEnvC scope cl C env).globals)) = false)
    (k : ∀ oC' h' tk, Fr h₀ L h' m → News h₀ L h' ((C, oC') :: (D, oD) :: (I, oI) :: nw₁) → NsO oC' (fun y => if y = x4 then some v4 else if y = x3 then some v3 else if y = x2 then some v2 else if y = x1 then some v1 else mC y) → wpAny (model PySem.Challenge.pw_og0152_01 w) A (eval elt (compEnvC scope cl C env)) G (fun _ _ => False) { s with heap := h', toks := tk }) :
    wpAny (model PySem.Challenge.pw_og0152_01 w) A (assign (.Tuple [.Name x1 p1, .Name x2 p2, .Name x3 p3, .Name x4 p4] xc pos) (compEnvC scope cl C env) (.ref t)) (fun _ s₂ => wpAny (model PySem.Challenge.pw_og0152_01 w) A (eval elt (compEnvC scope cl C env)) G (fun _ _ => False) s₂) (fun _ _ => False) s := by
  refine asg_tup4 hh ht F N hC (fun q hq => ?_) TT.CL TT.C0 rfl hk1 hk2 hk3 hk4 hp fun oC' h' tk F' N' n' => k oC' h' tk F' N' n'
  rcases List.mem_cons.mp hq with rfl | hq
  · exact Ne.symm TT.CD
  rcases List.mem_cons.mp hq with rfl | hq
  · exact Ne.symm TT.CI
  · exact (off q hq).1
end
def IntV (v : Value) (b : Int) : Prop := ∃ t, v = .int b t
theorem arr4_get {v1 v2 v3 v4 u : Value} {i : Nat} (h : (#[v1, v2, v3, v4] : Array Value)[i]? = some u) : [v1, v2, v3, v4][i]? = some u := by simpa using h
theorem ints_of : ∀ {vs : List Value} {bs : List Int}, Paired IntV vs bs → IntsAre vs bs
  | _, _, .nil => .nil
  | _, _, .cons ⟨_, e⟩ t => e ▸ .cons _ _ (ints_of t)
theorem lmin_fold : ∀ (r : List Int) (t : Int), (r.foldl (fun b x => if b > x then x else b) t ∈ t :: r) ∧ ∀ a ∈ t :: r, r.foldl (fun b x => if b > x then x else b) t ≤ a
  | [], t => ⟨.head _, fun a h => by rw [List.mem_singleton.mp h]; exact Int.le_refl _⟩
  | x :: r, t => by
    obtain ⟨h1, h2⟩ := lmin_fold r (if t > x then x else t)
    rw [List.foldl_cons]
    refine ⟨?_, fun a ha => ?_⟩
    · rcases List.mem_cons.mp h1 with h | h
      · rw [h]; split
        · exact .tail _ (.head _)
        · exact .head _
      · exact .tail _ (.tail _ h)
    · have h3 := h2 _ (.head _)
      have h4 : (if t > x then x else t) ≤ t ∧ (if t > x then x else t) ≤ x := by split <;> omega
      rcases List.mem_cons.mp ha with rfl | ha
      · exact Int.le_trans h3 h4.1
      rcases List.mem_cons.mp ha with rfl | ha
      · exact Int.le_trans h3 h4.2
      · exact h2 a (.tail _ ha)
theorem lmax_fold : ∀ (r : List Int) (t : Int), (r.foldl (fun b x => if b < x then x else b) t ∈ t :: r) ∧ ∀ a ∈ t :: r, a ≤ r.foldl (fun b x => if b < x then x else b) t
  | [], t => ⟨.head _, fun a h => by rw [List.mem_singleton.mp h]; exact Int.le_refl _⟩
  | x :: r, t => by
    obtain ⟨h1, h2⟩ := lmax_fold r (if t < x then x else t)
    rw [List.foldl_cons]
    refine ⟨?_, fun a ha => ?_⟩
    · rcases List.mem_cons.mp h1 with h | h
      · rw [h]; split
        · exact .tail _ (.head _)
        · exact .head _
      · exact .tail _ (.tail _ h)
    · have h3 := h2 _ (.head _)
      have h4 : t ≤ (if t < x then x else t) ∧ x ≤ (if t < x then x else t) := by split <;> omega
      rcases List.mem_cons.mp ha with rfl | ha
      · exact Int.le_trans h4.1 h3
      rcases List.mem_cons.mp ha with rfl | ha
      · exact Int.le_trans h4.2 h3
      · exact h2 a (.tail _ ha)
theorem lmin_is {l : List Int} (h : l ≠ []) : lmin l ∈ l ∧ ∀ a ∈ l, lmin l ≤ a := by
  cases l with
  | nil => exact absurd rfl h
  | cons t r => exact lmin_fold r t
theorem lmax_is {l : List Int} (h : l ≠ []) : lmax l ∈ l ∧ ∀ a ∈ l, a ≤ lmax l := by
  cases l with
  | nil => exact absurd rfl h
  | cons t r => exact lmax_fold r t
theorem lmin_of {M : Int} {l : List Int} (h : M ∈ l) (k : ∀ a, a ∈ l → M ≤ a) : lmin l = M := by
  obtain ⟨h1, h2⟩ := lmin_is (l := l) (by rintro rfl; cases h)
  exact Int.le_antisymm (h2 _ h) (k _ h1)
theorem lmax_of {M : Int} {l : List Int} (h : M ∈ l) (k : ∀ a, a ∈ l → a ≤ M) : lmax l = M := by
  obtain ⟨h1, h2⟩ := lmax_is (l := l) (by rintro rfl; cases h)
  exact Int.le_antisymm (k _ h1) (h2 _ h)
section
variable {prog : Program} {w : World} {A : Around} {s : Shared} {E : Value → Shared → Prop}
theorem min_lst {h₀ : Heap} {L : Addr} {m : Str → Option Value} {news : Led} {l : Addr} {vs : List Value} {ns : List Int} {Q : Value → Shared → Prop} (F : Fr h₀ L s.heap m) (N : News h₀ L s.heap news) (hl : s.heap.IsList l vs.toArray) (hi : IntsAre vs ns) (hne : ns ≠ []) (hh : A.handled = none)
    (h : ∀ h' (t : Tok) tk, Fr h₀ L h' m → News h₀ L h' news → Q (.int (lmin ns) t) { s with heap := h', toks := tk }) : wpAny (model prog w) A (call (.builtin "min") [.ref l]) Q E s :=
  kso_min F N hl hi (List.length_pos_iff.mpr hne) hh fun h' M t tk F' N' h1 h2 => by rw [← lmin_of h1 h2]; exact h h' t tk F' N'
theorem max_lst {h₀ : Heap} {L : Addr} {m : Str → Option Value} {news : Led} {l : Addr} {vs : List Value} {ns : List Int} {Q : Value → Shared → Prop} (F : Fr h₀ L s.heap m) (N : News h₀ L s.heap news) (hl : s.heap.IsList l vs.toArray) (hi : IntsAre vs ns) (hne : ns ≠ []) (hh : A.handled = none)
    (h : ∀ h' (t : Tok) tk, Fr h₀ L h' m → News h₀ L h' news → Q (.int (lmax ns) t) { s with heap := h', toks := tk }) : wpAny (model prog w) A (call (.builtin "max") [.ref l]) Q E s :=
  kso_max F N hl hi (List.length_pos_iff.mpr hne) hh fun h' M t tk F' N' h1 h2 => by rw [← lmax_of h1 h2]; exact h h' t tk F' N'
end
local macro_rules | `(tactic| walk_at "call builtin:min") => `(tactic| (k_here; (with_reducible show wpAny _ _ (call (Value.builtin _) [Value.ref _]) _ _ _); (refine' min_lst ?F ?N ?hl ?hi ?hne ?hh ?_; (case hh => with_unfolding_all rfl); (case F => k_asm); (case N => k_asm); (case hl => walk_at "m_lst"); (case hi => assumption); (case hne => assumption)); intro h' t' tk' F' N'; (try k_sweep)))
local macro_rules | `(tactic| walk_at "call builtin:max") => `(tactic| (k_here; (with_reducible show wpAny _ _ (call (Value.builtin _) [Value.ref _]) _ _ _); (refine' max_lst ?F ?N ?hl ?hi ?hne ?hh ?_; (case hh => with_unfolding_all rfl); (case F => k_asm); (case N => k_asm); (case hl => walk_at "m_lst"); (case hi => assumption); (case hne => assumption)); intro h' t' tk' F' N'; (try k_sweep)))
theorem PEnd.call1 {h₀ h' : Heap} {L : Addr} {m : Str → Option Value} {C D I : Addr} {oD oI oC' : Obj} {mC' : Str → Option Value} {nw₁ : Led} {Rl : Led → Value → Prop} {s₁ : Shared} {y : Value} {tk : Nat} {x : Addr × Obj} {tl : Led} (F : Fr h₀ L h' m) (N : News h₀ L h' (x :: (tl ++ (C, oC') :: (D, oD) :: (I, oI) :: nw₁))) (n : NsO oC' mC')
    (O1 : ∀ q ∈ [x], ∀ r ∈ tl ++ ((C, oC') :: (D, oD) :: (I, oI) :: nw₁), q.1 ≠ r.1) (O2 : ∀ q ∈ tl, ∀ r ∈ ((C, oC') :: (D, oD) :: (I, oI) :: nw₁), q.1 ≠ r.1) (j : Rl (x :: tl) y) :
    PEnd h₀ L m C D I oD oI nw₁ Rl s₁ y { s₁ with heap := h', toks := tk } := PEnd.call (tl := x :: tl) F N n (fun q hq r hr => by
      rcases List.mem_cons.mp hq with rfl | hq
      · exact O1 _ (.head _) r (mem_appR hr)
      · exact O2 q hq r hr) j
theorem ml_at {h₀ h : Heap} {L : Addr} {nw tl : Led} (N : News h₀ L h nw) (k : ∀ q ∈ tl, q ∈ nw) : ∀ a o, ML tl a o → HH h a o := fun a o m => (N _ (k _ m)).1
local macro_rules | `(tactic| walk_at "m_hv") => `(tactic| (first | exact DecBy.mono (HH.up (by k_asm)) (by assumption) | exact DecBy.mono (ml_at (by k_asm) (fun q hq => mem_appL hq)) (by assumption)))
local macro_rules | `(tactic| walk_at "call ref") => `(tactic| (k_here; (refine' dec_new ?hA ?X ?T ?hb ?_; (case hA => walk_at "m_room"); (case X => k_in); (case T => walk_at "m_top"); (case hb => omega)); intro h' tk' tl' r' e' nn' hd'; (have O' := new_off (by k_asm) nn'); (obtain ⟨F', N'⟩ := news_more (by k_asm) (by k_asm) e' nn'); clear e' nn'; (try k_sweep)))
section
variable {p : Program} {loose : List Str} {w : World} {mean : ExcName → Option Value} {mg mb : Str → Option Value} {A : Around} {s : Shared} {Q E : Value → Shared → Prop}
theorem law_told_spec (hA : Room 8 A) (X : (hd.heap_39 w.params).In s.heap) (T : Top p loose mean mg mb s.heap) {v : Value} {vs : List Value} {gs : List Gl} {has : Addr → Obj → Prop} (hl : ListBy (HH s.heap) v vs)
    (hhas : ∀ a o, has a o → HH s.heap a o) (hp : Paired (QuadBy has) vs gs) (hne : gs ≠ []) (hlen : vs.length ≤ 500)
    (ret : ∀ h' tk tl r, Ext s.heap h' → NewIn s.heap h' tl → BToldBy (ML tl) r (boxOf gs) → Q r { s with heap := h', toks := tk }) :
    wpAny (model PySem.Challenge.pw_og0152_01 w) A (call (.ref 258) [v]) Q E s := by
  obtain ⟨a, n, rfl, ha⟩ := hl
  unfold HH at ha
  have hls : s.heap.IsList a vs.toArray := ⟨_, ha, rfl, n, rfl⟩
  have hlen' : vs.length = gs.length := hp.length
  obtain ⟨hn, dp, fr, gd, un⟩ := A
  obtain rfl : hn = none := hA.handled
  refine wpAny_call ?_
  k_dflt (refine' enter (binds := [(Str.ofString "some", .ref a)]) ?k1 ?k2 ?k6 ?k7 ?k8 ?k9 ?kB ?_ ?c2 ?c3 ?c4 ?c5; walk_at "m_in")
  walk_at "m_pure"
  k_steps
  refine stop_of ?_
  refine comp_same IntV (gs.map Gl.x) (by decide) rfl (Iter.list rfl (Fr.lst (by assumption) hls)) (by assumption) News.nil (src_base ha) (by simp [hlen']) (by simp; omega) ?_ ?_
  · intro C D I i u b oC mC oD oI s₁ TT hP hb F₁ N₁ nC off
    obtain ⟨g, hg, hgl⟩ := paired_get hp (by simpa using hP)
    obtain rfl : g.x = b := by rw [List.getElem?_map, hg] at hb; exact Option.some.inj hb
    obtain ⟨ga, gn, x1, x2, x3, x4, rfl, hga⟩ := hgl
    replace hga := F₁.keep _ _ (hhas _ _ hga)
    refine pure_tup4 rfl hga F₁ N₁ nC off TT rfl rfl rfl rfl rfl fun oC' h' tk F' N' n' => ?_
    k_steps
    exact SEnd.mk' F' N' n' ⟨_, rfl⟩
  intro C1 D1 I1 h1 tk1 ys1 mC1 c1 TT1 F1 N1 n1 off1 p1
  refine fin_none TT1 F1 N1 n1 off1 fun h2 F2 N2 ne2 => ?_
  clear F1 N1 n1 off1 TT1
  k_steps
  refine stop_of ?_
  refine comp_same IntV (gs.map fun g => g.x + g.w) (by decide) rfl (Iter.list rfl (Fr.lst (by assumption) hls)) (by assumption) N2 (src_base ha) (by simp [hlen']) (by simp; omega) ?_ ?_
  · intro C D I i u b oC mC oD oI s₁ TT hP hb F₁ N₁ nC off
    obtain ⟨g, hg, hgl⟩ := paired_get hp (by simpa using hP)
    obtain rfl : g.x + g.w = b := by rw [List.getElem?_map, hg] at hb; exact Option.some.inj hb
    obtain ⟨ga, gn, x1, x2, x3, x4, rfl, hga⟩ := hgl
    replace hga := F₁.keep _ _ (hhas _ _ hga)
    clear F2 N2 ne2
    refine pure_tup4 rfl hga F₁ N₁ nC off TT rfl rfl rfl rfl rfl fun oC' h' tk F' N' n' => ?_
    clear F₁ N₁
    k_steps
    exact SEnd.mk' F' N' n' ⟨_, rfl⟩
  intro C3 D3 I3 h3 tk3 ys3 mC3 c3 TT3 F3 N3 n3 off3 p3
  refine fin_none TT3 F3 N3 n3 off3 fun h4 F4 N4 ne4 => ?_
  clear F3 N3 n3 off3 TT3 F2 N2 ne4 ne2
  have l1 : ys1.length = gs.length := by rw [p1.length, List.length_map]
  have l3 : ys3.length = gs.length := by rw [p3.length, List.length_map]
  k_steps
  rename Fr _ _ _ _ => F5
  rename News _ _ _ _ => N5
  refine stop_of ?_
  refine comp_same IntV (gs.map Gl.y) (by decide) rfl (Iter.list rfl (Fr.lst (by assumption) hls)) (by assumption) N5 (src_base ha) (by simp [hlen']) (by simp; omega) ?_ ?_
  · intro C D I i u b oC mC oD oI s₁ TT hP hb F₁ N₁ nC off
    obtain ⟨g, hg, hgl⟩ := paired_get hp (by simpa using hP)
    obtain rfl : g.y = b := by rw [List.getElem?_map, hg] at hb; exact Option.some.inj hb
    obtain ⟨ga, gn, x1, x2, x3, x4, rfl, hga⟩ := hgl
    replace hga := F₁.keep _ _ (hhas _ _ hga)
    clear F5 N5
    refine pure_tup4 rfl hga F₁ N₁ nC off TT rfl rfl rfl rfl rfl fun oC' h' tk F' N' n' => ?_
    clear F₁ N₁
    k_steps
    exact SEnd.mk' F' N' n' ⟨_, rfl⟩
  intro C5 D5 I5 h5 tk5 ys5 mC5 c5 TT5 F6 N6 n5 off5 p5
  refine fin_none TT5 F6 N6 n5 off5 fun h6 F7 N7 ne6 => ?_
  clear F6 N6 n5 off5 TT5 F5 N5 ne6
  k_steps
  refine stop_of ?_
  refine comp_same IntV (gs.map fun g => g.y + g.h) (by decide) rfl (Iter.list rfl (Fr.lst (by assumption) hls)) (by assumption) N7 (src_base ha) (by simp [hlen']) (by simp; omega) ?_ ?_
  · intro C D I i u b oC mC oD oI s₁ TT hP hb F₁ N₁ nC off
    obtain ⟨g, hg, hgl⟩ := paired_get hp (by simpa using hP)
    obtain rfl : g.y + g.h = b := by rw [List.getElem?_map, hg] at hb; exact Option.some.inj hb
    obtain ⟨ga, gn, x1, x2, x3, x4, rfl, hga⟩ := hgl
    replace hga := F₁.keep _ _ (hhas _ _ hga)
    clear F7 N7
    refine pure_tup4 rfl hga F₁ N₁ nC off TT rfl rfl rfl rfl rfl fun oC' h' tk F' N' n' => ?_
    clear F₁ N₁
    k_steps
    exact SEnd.mk' F' N' n' ⟨_, rfl⟩
  intro C7 D7 I7 h7 tk7 ys7 mC7 c7 TT7 F8 N8 n7 off7 p7
  refine fin_none TT7 F8 N8 n7 off7 fun h8 F9 N9 ne8 => ?_
  clear F8 N8 n7 off7 TT7 F7 N7 ne8
  have l5 : ys5.length = gs.length := by rw [p5.length, List.length_map]
  have l7 : ys7.length = gs.length := by rw [p7.length, List.length_map]
  have iA := ints_of (Paired.append p1 p3)
  have iU := ints_of (Paired.append p5 p7)
  have neA : (gs.map Gl.x ++ gs.map fun g => g.x + g.w) ≠ [] := by simp [hne]
  have neU : (gs.map Gl.y ++ gs.map fun g => g.y + g.h) ≠ [] := by simp [hne]
  clear p1 p3 p5 p7
  k_steps
  rename Fr _ _ _ _ => FF
  rename News _ _ _ _ => NN
  refine stop_of ?_
  have hp' : ∀ t1 t2 t3 t4 : Tok, Paired IntV [.int (boxOf gs).l t1, .int (boxOf gs).b t2, .int (boxOf gs).r t3, .int (boxOf gs).t t4] [(boxOf gs).l, (boxOf gs).b, (boxOf gs).r, (boxOf gs).t] := fun _ _ _ _ => .cons ⟨_, rfl⟩ (.cons ⟨_, rfl⟩ (.cons ⟨_, rfl⟩ (.cons ⟨_, rfl⟩ .nil)))
  refine comp_pure ToldBy ToldBy.mono (fun _ _ => False) [(boxOf gs).l, (boxOf gs).b, (boxOf gs).r, (boxOf gs).t] (by decide) rfl (Iter.tuple rfl ⟨_, (NN _ (.head _)).1, rfl, _, rfl⟩) FF NN (src_news (.head _)) rfl (by simp) ?_ ?_
  · intro C D I i u t nw₁ oC mC oD oI s₁ TT hP hb F₁ N₁ nC off hsub
    obtain ⟨t', ht', xt, rfl⟩ := paired_get (hp' _ _ _ _) (arr4_get hP)
    obtain rfl : t' = t := by rw [hb] at ht'; exact (Option.some.inj ht').symm
    clear FF NN
    refine pure_name F₁ N₁ nC off TT rfl rfl fun oC' h' F' N' n' => ?_
    clear F₁ N₁
    k_steps
    rename DecBy _ (ML _) _ _ => dx
    rw [if_neg (by decide)] at dx
    obtain ⟨xa, xd, y1, y2, y3, y4, rfl, hxa, hxd⟩ := id dx
    unfold ML at hxa hxd
    k_steps
    rename Fr _ _ _ _ => Fx
    rename News _ _ _ _ => Nx
    exact PEnd.call1 Fx Nx n' (by assumption) (by assumption) ⟨_, _, _, _, rfl, .inr (.head _)⟩
  intro C8 D8 I8 h9 tk9 tl9 ys9 mC9 c9 TT9 F9 N9 n9 off9 p9
  refine fin_none TT9 F9 N9 n9 off9 fun h2 F2 N2 ne2 => ?_
  clear F9 N9 n9 off9 TT9 FF NN
  obtain _ | ⟨q1, _ | ⟨q2, _ | ⟨q3, _ | ⟨q4, _ | _⟩⟩⟩⟩ := p9
  k_steps
  rename Fr _ _ _ _ => FF
  rename News _ _ _ _ => NN
  rename Addr => TD
  refine ret _ _ ((TD, _) :: tl9) _ (Fr.keep FF) (newIn_of NN fun q hq => ?_) ⟨TD, 0, _, _, _, _, rfl, .head _, q1.mono fun a o h => ?_, q2.mono fun a o h => ?_, q3.mono fun a o h => ?_, q4.mono fun a o h => ?_⟩
  · rcases List.mem_cons.mp hq with rfl | hq
    · exact .head _
    · exact .tail _ (.tail _ (mem_appL hq))
  all_goals exact .tail _ (h.elim False.elim id)
end
/-! part G6 -/
/-- the drawn list -/
def TapeEnd (lo : Nat) (h₀ : Heap) (L : Addr) (m : Str → Option Value) (nw : Led) (s₁ : Shared) (v : Value) (s' : Shared) : Prop :=
  ∃ h' tk D vs ns n, v = .ref D ∧ s' = { s₁ with heap := h', toks := tk } ∧ Fr h₀ L h' m ∧ News h₀ L h' ((D, listOf vs.toArray n) :: nw) ∧ IntsAre vs ns ∧ 1 ≤ ns.length ∧ ns.length ≤ 1000 ∧ lo < D
theorem TapeEnd.mk' {lo : Nat} {h₀ h' : Heap} {L D : Addr} {m : Str → Option Value} {nw nw' : Led} {s₁ : Shared} {tk n : Nat} {vs : List Value} {ns : List Int} (F : Fr h₀ L h' m) (N : News h₀ L h' nw') (h : ∀ q ∈ (D, listOf vs.toArray n) :: nw, q ∈ nw') (hi : IntsAre vs ns) (h1 : 1 ≤ ns.length) (h2 : ns.length ≤ 1000) (h3 : lo < D) : TapeEnd lo h₀ L m nw s₁ (.ref D) { s₁ with heap := h', toks := tk } :=
  ⟨h', tk, D, vs, ns, n, rfl, rfl, F, news_perm N h, hi, h1, h2, h3⟩
theorem tape_list (lo : Nat) {M : Model} {A : Around} {e : Expr} {env : Env} {K E : Value → Shared → Prop} {s : Shared} {h₀ : Heap} {L : Addr} {m : Str → Option Value} {nw : Led}
    (_ : Fr h₀ L s.heap m) (_ : News h₀ L s.heap nw)
    (h : wpAny M A (eval e env) (TapeEnd lo h₀ L m nw s) (fun _ _ => False) s)
    (k : ∀ h' tk D vs ns n, Fr h₀ L h' m → News h₀ L h' ((D, listOf vs.toArray n) :: nw) → IntsAre vs ns → 1 ≤ ns.length ∧ ns.length ≤ 1000 → lo < D → K (.ref D) { s with heap := h', toks := tk }) : wpAny M A (eval e env) K E s :=
  wpAny_mono h (fun v s' ⟨h', tk, D, vs, ns, n, e1, e2, F, N, hi, h1, h2, h3⟩ => by subst e1 e2; exact k h' tk D vs ns n F N hi ⟨h1, h2⟩ h3) fun _ _ f => f.elim
theorem drop3 {a b c : Addr × Obj} {nw : Led} : ∀ q ∈ a :: nw, q ∈ a :: b :: c :: nw := fun q hq => by
  rcases List.mem_cons.mp hq with rfl | hq
  · exact .head _
  · exact .tail _ (.tail _ (.tail _ hq))
local macro_rules | `(tactic| walk_at "m_hne") => `(tactic| first | assumption | exact Nat.ne_of_lt (by omega))
local macro_rules | `(tactic| walk_at "call ref") => `(tactic| (k_here; (refine' draw_use ?hA ?F ?X ?T ?N ?U ?hcl ?hne ?hi ?hn ?hat ?hlim ?_); (case hA => walk_at "m_room"); (case F => k_asm); (case X => assumption); (case T => assumption); (case N => k_asm); (case U => k_updF); (case hcl => first | exact Fr.keep (by k_asm) _ _ (by assumption) | exact News.get (by k_asm) (by k_mem)); (case hne => walk_at "m_hne"); (case hi => assumption); (case hn => assumption); (case hat => omega); (case hlim => omega); intro h' tk' r' t' t2' n' F' N' hr'; (try dsimp only at N'); (try k_sweep)))
theorem store_cell {M : Model} {A : Around} {E : Value → Shared → Prop} {s : Shared} {h₀ : Heap} {L : Addr} {m : Str → Option Value} {env : Env} {x : Str} {v : Value} {nw : Led} {g : Obj → Led} {c : Addr} {o : Obj} {v₀ : Option Value} {Q : Unit → Shared → Prop}
    (F : Fr h₀ L s.heap m) (N : News h₀ L s.heap nw) (hc : env.cells.lookup x = some c) (U : UpdF c o nw g) (hd : o.data = .cell v₀) (hk : env.scope.kind = .function) (hl : env.kindOf x = some .cell)
    (h : ∀ h' o', Fr h₀ L h' m → News h₀ L h' (g o') → o'.data = .cell (some v) → Q () { s with heap := h' }) : wpAny M A (storeName env x v) Q E s := by
  obtain ⟨own, rest, rfl, hg, h1, h2⟩ := U.split
  have hmem := N (c, o) (List.mem_append_right _ (.head _))
  refine wpAny_storeName_cell hk hl hc ⟨o, hmem.1, hd⟩ fun h' hv hs => ?_
  obtain ⟨o', ho', hd'⟩ := hv
  refine h h' o' ⟨F.ns.sameBut hs (Ne.symm hmem.2.1), fun b ob e => (hs.2 b (fun q => ?_)).trans (F.keep b ob e), F.above⟩ (hg o' ▸ N.setAt h1 h2 hs ho') hd'
  rw [q, hmem.2.2] at e; cases e
theorem name_cell {M : Model} {A : Around} {E : Value → Shared → Prop} {s : Shared} {h₀ : Heap} {L : Addr} {env : Env} {x : Str} {v : Value} {nw : Led} {c : Addr} {o : Obj} {pos : Pos} {Q : Value → Shared → Prop}
    (N : News h₀ L s.heap nw) (hc : env.cells.lookup x = some c) (hm : (c, o) ∈ nw) (hd : o.data = .cell (some v)) (hk : env.scope.kind = .function) (hl : env.kindOf x = some .cell) (hb : (x == ("__debug__" : Str)) = false)
    (h : Q v s) : wpAny M A (eval (.Name x pos) env) Q E s := wpAny_Name (wpAny_loadName_cell hk hl hc ⟨o, (N _ hm).1, hd⟩ h) hb
local macro_rules | `(tactic| walk_at "storeName") => `(tactic| (k_here; k_dflt (refine' store_cell ?F ?N ?hc ?U ?hd ?hk ?hl ?_; (case hk => exact rfl); (case hl => exact rfl); (case hc => exact rfl); (case F => k_asm); (case N => k_asm); (case U => k_updF); (case hd => assumption); k_whole); intro h' o' F' N' d'; (try dsimp only at N'); (try k_sweep)))
local macro_rules | `(tactic| walk_at "eval Name") => `(tactic| (k_here; k_dflt (refine' name_cell ?N ?hc ?hm ?hd ?hk ?hl ?hb ?_; (case hk => exact rfl); (case hl => exact rfl); (case hb => decide); (case hc => exact rfl); (case N => k_asm); (case hm => k_mem); (case hd => assumption); k_whole)))
local macro_rules | `(tactic| walk_at "eval BoolOp") => `(tactic| ((with_reducible show wpAny _ _ _ _ _ _); (refine stop_of ?_)))
theorem room_law {M : Model} {env env' : Env} {l : List Stmt} {Q : Flow → Shared → Prop} {E : Value → Shared → Prop} {s : Shared} (h : ∀ dp fr gd un, Room 30 ⟨none, dp, fr, gd, un⟩ → wpAny M ⟨none, dp, fr, gd, un⟩ (execs l env') Q E s) : wpAny M (callerA.deeper env) (execs l env') Q E s :=
  h _ _ _ _ ⟨rfl, (by decide : callerA.depth + 1 + 30 ≤ 900), (by decide : callerA.units + 3 + 10 * 30 ≤ 9000)⟩
theorem name_free {M : Model} {A : Around} {E : Value → Shared → Prop} {s : Shared} {h₀ : Heap} {L : Addr} {env : Env} {x : Str} {v : Value} {nw : Led} {c : Addr} {o : Obj} {pos : Pos} {Q : Value → Shared → Prop}
    (N : News h₀ L s.heap nw) (hc : env.cells.lookup x = some c) (hm : (c, o) ∈ nw) (hd : o.data = .cell (some v)) (hk : env.scope.kind = .function) (hl : env.kindOf x = some .free) (hb : (x == ("__debug__" : Str)) = false) (hn : (x == ("__classdict__" : Str)) = false)
    (h : Q v s) : wpAny M A (eval (.Name x pos) env) Q E s := wpAny_Name (wpAny_loadName_free hk hl hc ⟨o, (N _ hm).1, hd⟩ h hn) hb
local macro_rules | `(tactic| walk_at "eval Name") => `(tactic| (k_here; k_dflt (refine' name_free ?N ?hc ?hm ?hd ?hk ?hl ?hb ?hn ?_; (case hk => exact rfl); (case hl => exact rfl); (case hb => decide); (case hn => decide); (case hc => exact rfl); (case N => k_asm); (case hm => k_mem); (case hd => assumption); k_whole)))
def RowQ (has : Addr → Obj → Prop) (v : Value) (gs : List Gl) : Prop := ∃ vs, ListBy has v vs ∧ Paired (QuadBy has) vs gs
theorem RowQ.mono {has has' : Addr → Obj → Prop} {v : Value} {gs : List Gl} (k : ∀ a o, has a o → has' a o) (h : RowQ has v gs) : RowQ has' v gs := let ⟨vs, l, p⟩ := h; ⟨vs, l.mono k, Paired.mono' (fun _ _ q => q.mono k) p⟩
section
variable {p : Program} {loose : List Str} {w : World} {mean : ExcName → Option Value} {mg mb : Str → Option Value} {A : Around} {s : Shared} {Q E : Value → Shared → Prop}
theorem law_row_use (hA : Room 3 A) {h₀ : Heap} {L Ta cl : Addr} {m : Str → Option Value} {nw : Led} {g : Obj → Led} {at' : Int} {ta : Tok} {n c : Nat} {vs : List Value} {ns : List Int}
    (F : Fr h₀ L s.heap m) (X : (hd.heap_39 w.params).In h₀) (T : Top p loose mean mg mb h₀) (N : News h₀ L s.heap nw) (U : UpdF Ta (listOf [.ref cl, .int at' ta].toArray n) nw g)
    (hcl : s.heap.get? cl = some (listOf vs.toArray c)) (hne : cl ≠ Ta) (hi : IntsAre vs ns) (hn : 1 ≤ ns.length ∧ ns.length ≤ 1000) (hat : 0 ≤ at' ∧ at' ≤ 900)
    (ret : ∀ h' tk R gs tl at₂ t n', Fr h₀ L h' m → News h₀ L h' (tl ++ g (listOf [.ref cl, .int at₂ t].toArray n')) → at' ≤ at₂ ∧ at₂ ≤ at' + 17 → (∀ q ∈ tl, ∀ r ∈ nw, q.1 ≠ r.1) → RowQ (ML tl) R gs → 1 ≤ gs.length ∧ gs.length ≤ 4 → Q R { s with heap := h', toks := tk }) :
    wpAny (model PySem.Challenge.pw_og0152_01 w) A (call (.ref 253) [.ref Ta]) Q E s := by
  obtain ⟨own, rest, rfl, hg, h1, h2⟩ := U.split
  have hm := N (Ta, _) (mem_appR (.head _))
  have eg : Ext h₀ (hideAll s.heap [Ta]) := ext_hideAll F.keep fun a ha => by rw [List.mem_singleton.mp ha]; exact hm.2.2
  refine law_row_spec hA hm.1 hcl hne hi hn hat (frag_keeps X eg) (top_keeps T eg) fun h' tk R bvs nR gs tl at₂ t n' hk hT hat₂ nn hp hlen => ?_
  have off : ∀ q ∈ (R, listOf bvs.toArray nR) :: tl, ∀ r ∈ own ++ (Ta, listOf [.ref cl, .int at' ta].toArray n) :: rest, q.1 ≠ r.1 := fun q hq r hr e => by
    have h1 := (nn q hq).2
    rw [e, (N r hr).1] at h1
    cases h1
  obtain ⟨oL, e1, e2, hL, e3⟩ := id F.ns
  have kL : h'.get? L = some oL := hk _ _ (Ne.symm hm.2.1) hL
  refine ret h' tk (.ref R) gs ((R, listOf bvs.toArray nR) :: tl) at₂ t n' ⟨F.ns.at' fun o e => hk _ o (Ne.symm hm.2.1) e, fun b o e => hk b o (by rintro rfl; rw [hm.2.2] at e; cases e) (F.keep b o e), F.above⟩ ?_ hat₂ off ⟨bvs, ⟨R, nR, rfl, .head _⟩, Paired.mono' (fun _ _ h => h.mono fun _ _ h => .tail _ h) hp⟩ hlen
  rw [hg]
  intro q hq
  rcases List.mem_append.mp hq with hq | hq
  · refine ⟨(nn q hq).1, fun z => ?_, ?_⟩
    · have h3 := (nn q hq).2
      rw [z, hL] at h3; cases h3
    · cases e : h₀.get? q.1 with
      | none => rfl
      | some o => have h3 := (nn q hq).2; rw [F.keep _ _ e] at h3; cases h3
  rcases List.mem_append.mp hq with hq | hq
  · exact ⟨hk _ _ (h1 q hq) (N q (mem_appL hq)).1, (N q (mem_appL hq)).2⟩
  rcases List.mem_cons.mp hq with rfl | hq
  · exact ⟨hT, hm.2⟩
  · exact ⟨hk _ _ (h2 q hq) (N q (mem_appR (.tail _ hq))).1, (N q (mem_appR (.tail _ hq))).2⟩
end
local macro_rules | `(tactic| walk_at "call ref") => `(tactic| (k_here; (refine' law_row_use ?hA ?F ?X ?T ?N ?U ?hcl ?hne ?hi ?hn ?hat ?_); (case hA => walk_at "m_room"); (case F => k_asm); (case X => assumption); (case T => assumption); (case N => k_asm); (case U => k_updF); (case hcl => first | exact Fr.keep (by k_asm) _ _ (by assumption) | exact News.get (by k_asm) (by k_mem)); (case hne => walk_at "m_hne"); (case hi => assumption); (case hn => assumption); (case hat => omega); intro h' tk' r' gs' tl' at' t' n' F' N' hat' O' hr' hg'; (try dsimp only at N'); (try k_sweep)))
/-! part G7 -/
/-- the rows drawn so far -/
def PlainJ (Ta D : Addr) (rest : Led) (i : Nat) (nw : Led) (ys : List Value) : Prop :=
  i ≤ 4 ∧ ∃ at' t nT tl gss, nw = (Ta, listOf [.ref D, .int at' t].toArray nT) :: (tl ++ rest) ∧ 1 ≤ at' ∧ at' ≤ 1 + 17 * i ∧ (∀ q ∈ tl, q.1 ≠ Ta ∧ ∀ r ∈ rest, q.1 ≠ r.1) ∧ Paired (RowQ (ML tl)) ys gss ∧ gss.length = i ∧ (∀ gs ∈ gss, 1 ≤ gs.length ∧ gs.length ≤ 4)
theorem plain_step {h₀ h' : Heap} {L : Addr} {m : Str → Option Value} {C D' I : Addr} {oD oI oC' o₀ : Obj} {mC' : Str → Option Value} {s₁ : Shared} {y : Value} {tk i nT : Nat} {Ta D : Addr} {t : Tok} {a₁ a₂ : Int} {tl tl' rest : Led} {ys : List Value} {gss : List (List Gl)} {gs : List Gl}
    (F : Fr h₀ L h' m) (N : News h₀ L h' (tl' ++ (C, oC') :: (D', oD) :: (I, oI) :: (Ta, listOf [.ref D, .int a₂ t].toArray nT) :: (tl ++ rest))) (n : NsO oC' mC') (off : Off C D' I ((Ta, o₀) :: (tl ++ rest)))
    (O : ∀ q ∈ tl', ∀ r ∈ (C, oC') :: (D', oD) :: (I, oI) :: (Ta, o₀) :: (tl ++ rest), q.1 ≠ r.1) (hi : i < 4) (h1 : 1 ≤ a₁) (h2 : a₁ ≤ 1 + 17 * i) (h3 : a₁ ≤ a₂ ∧ a₂ ≤ a₁ + 17) (htl : ∀ q ∈ tl, q.1 ≠ Ta ∧ ∀ r ∈ rest, q.1 ≠ r.1)
    (hp : Paired (RowQ (ML tl)) ys gss) (hl : gss.length = i) (hb : ∀ gs ∈ gss, 1 ≤ gs.length ∧ gs.length ≤ 4) (hq : RowQ (ML tl') y gs) (hg : 1 ≤ gs.length ∧ gs.length ≤ 4) :
    EltEnd h₀ L m C D' I oD oI (fun nw' => PlainJ Ta D rest (i + 1) nw' (ys ++ [y])) s₁ { s₁ with heap := h', toks := tk } := by
  refine EltEnd.mk' (nw' := (Ta, listOf [.ref D, .int a₂ t].toArray nT) :: ((tl' ++ tl) ++ rest)) F (news_perm N (by grind)) n ?_ ⟨by omega, a₂, t, nT, tl' ++ tl, gss ++ [gs], rfl, by omega, by omega, ?_, ?_, by rw [List.length_append, hl]; rfl, ?_⟩
  · intro q hq
    rcases List.mem_cons.mp hq with rfl | hq
    · exact off (Ta, o₀) (.head _)
    rcases List.mem_append.mp hq with hq | hq
    · rcases List.mem_append.mp hq with hq | hq
      · exact off_tl O q hq
      · exact off q (.tail _ (mem_appL hq))
    · exact off q (.tail _ (mem_appR hq))
  · intro q hq
    rcases List.mem_append.mp hq with hq | hq
    · exact ⟨O q hq (Ta, o₀) (.tail _ (.tail _ (.tail _ (.head _)))), fun r hr => O q hq r (.tail _ (.tail _ (.tail _ (.tail _ (mem_appR hr)))))⟩
    · exact htl q hq
  · exact Paired.snoc (Paired.mono' (fun _ _ h => h.mono fun _ _ h => mem_appR h) hp) (hq.mono fun _ _ h => mem_appL h)
  · intro x hx
    rcases List.mem_append.mp hx with hx | hx
    · exact hb x hx
    · rw [List.mem_singleton.mp hx]; exact hg
theorem PlainJ.len {Ta D : Addr} {rest nw : Led} {i : Nat} {ys : List Value} (h : PlainJ Ta D rest i nw ys) : ys.length ≤ 1000000 := by
  obtain ⟨h, _, _, _, _, gss, _, _, _, _, hp, hl, _⟩ := h
  rw [hp.length, hl]; omega
theorem permP {p o1 o2 oT ta d : Addr × Obj} {tl : Led} : ∀ q ∈ p :: o1 :: o2 :: oT :: ta :: d :: tl, q ∈ p :: ta :: (tl ++ [d, o1, o2, oT]) := by grind
theorem plain_base {Ta D P c1 c2 c3 : Addr} {oP oD oTa o1 o2 o3 : Obj} {tl : Led} (hPT : Ta ≠ P) (hP : ∀ q ∈ [(D, oD), (c1, o1), (c2, o2), (c3, o3)], q.1 ≠ P) (hD : c2 < c1 ∧ c3 < c2 ∧ c1 < D ∧ D < Ta) (hP2 : ∀ q ∈ tl, q.1 ≠ P)
    (htl : ∀ q ∈ tl, q.1 ≠ Ta ∧ ∀ r ∈ [(D, oD), (c1, o1), (c2, o2), (c3, o3)], q.1 ≠ r.1) :
    P ≠ c1 ∧ (∀ q ∈ (c2, o2) :: (c3, o3) :: (Ta, oTa) :: (D, oD) :: tl, q.1 ≠ c1) ∧ Ta ≠ c2 ∧ ∀ o, ∀ q ∈ (P, oP) :: (c1, o) :: (c3, o3) :: (D, oD) :: tl, q.1 ≠ Ta ∧ q.1 ≠ c2 := by
  obtain ⟨d1, d2, d3, d4⟩ := hD
  have e1 := Nat.ne_of_lt d1
  have e2 := Nat.ne_of_lt d2
  have e3 := Nat.ne_of_lt d3
  have e4 := Nat.ne_of_lt d4
  have f1 : c3 < c1 := Nat.lt_trans d2 d1
  have f2 : c1 < Ta := Nat.lt_trans d3 d4
  have f3 : c2 < Ta := Nat.lt_trans d1 f2
  have f4 : c3 < Ta := Nat.lt_trans d2 f3
  have f5 : c2 < D := Nat.lt_trans d1 d3
  refine ⟨Ne.symm (hP (c1, o1) (.tail _ (.head _))), fun q hq => ?_, Nat.ne_of_gt f3, fun o q hq => ?_⟩
  · rcases List.mem_cons.mp hq with rfl | hq
    · exact e1
    rcases List.mem_cons.mp hq with rfl | hq
    · exact Nat.ne_of_lt f1
    rcases List.mem_cons.mp hq with rfl | hq
    · exact Nat.ne_of_gt f2
    rcases List.mem_cons.mp hq with rfl | hq
    · exact Ne.symm e3
    · exact (htl q hq).2 (c1, o1) (.tail _ (.head _))
  · rcases List.mem_cons.mp hq with rfl | hq
    · exact ⟨Ne.symm hPT, Ne.symm (hP (c2, o2) (.tail _ (.tail _ (.head _))))⟩
    rcases List.mem_cons.mp hq with rfl | hq
    · exact ⟨Nat.ne_of_lt f2, Ne.symm e1⟩
    rcases List.mem_cons.mp hq with rfl | hq
    · exact ⟨Nat.ne_of_lt f4, e2⟩
    rcases List.mem_cons.mp hq with rfl | hq
    · exact ⟨e4, Nat.ne_of_gt f5⟩
    · exact ⟨(htl q hq).1, (htl q hq).2 (c2, o2) (.tail _ (.tail _ (.head _)))⟩
theorem permB {p o1 o2 oT ta d : Addr × Obj} {tl : Led} : ∀ q ∈ ta :: o2 :: (p :: o1 :: oT :: d :: tl), q ∈ p :: o1 :: o2 :: oT :: ta :: d :: tl := by grind
theorem mem_mem {α : Type} {x : α} {l : List α} (h : x ∈ l) : List.Mem x l := h
local macro_rules | `(tactic| k_mem) => `(tactic| first | (with_reducible assumption) | (with_reducible exact mem_mem (by with_reducible assumption)) | ((with_reducible refine mem_appR ?_); k_mem) | ((with_reducible refine mem_appL ?_); k_mem) | ((with_reducible refine mem_appR' ?_); k_mem) | ((with_reducible refine mem_appL' ?_); k_mem))
local macro_rules | `(tactic| walk_at "exec For Name Name cons nil") => `(tactic| (k_here; (refine' for_start ?_ ?hs; (case hs => intro _; with_unfolding_all rfl))))
/-! part G8 -/
def upd (x : Str) (u : Option Value) (m : Str → Option Value) : Str → Option Value := fun y => if y = x then u else m y
theorem upd_self (x : Str) (m : Str → Option Value) : m = upd x (m x) m := by
  funext y
  unfold upd
  split
  · next h => rw [h]
  · rfl
theorem upd_upd (x : Str) (u v : Option Value) (m : Str → Option Value) : (fun y => if y = x then u else upd x v m y) = upd x u m := by
  funext y
  unfold upd
  split <;> rfl
theorem PEnd.call5 {h₀ h' : Heap} {L : Addr} {m : Str → Option Value} {C D I : Addr} {oD oI oC' : Obj} {mC' : Str → Option Value} {nw₁ : Led} {Rl : Led → Value → Prop} {s₁ : Shared} {y : Value} {tk : Nat} {a b c d e : Led} (F : Fr h₀ L h' m) (N : News h₀ L h' (a ++ (b ++ (c ++ (d ++ (e ++ (C, oC') :: (D, oD) :: (I, oI) :: nw₁)))))) (n : NsO oC' mC')
    (O1 : ∀ q ∈ e, ∀ r ∈ ((C, oC') :: (D, oD) :: (I, oI) :: nw₁), q.1 ≠ r.1) (O2 : ∀ q ∈ d, ∀ r ∈ e ++ ((C, oC') :: (D, oD) :: (I, oI) :: nw₁), q.1 ≠ r.1) (O3 : ∀ q ∈ c, ∀ r ∈ d ++ (e ++ ((C, oC') :: (D, oD) :: (I, oI) :: nw₁)), q.1 ≠ r.1)
    (O4 : ∀ q ∈ b, ∀ r ∈ c ++ (d ++ (e ++ ((C, oC') :: (D, oD) :: (I, oI) :: nw₁))), q.1 ≠ r.1) (O5 : ∀ q ∈ a, ∀ r ∈ b ++ (c ++ (d ++ (e ++ ((C, oC') :: (D, oD) :: (I, oI) :: nw₁)))), q.1 ≠ r.1) (j : Rl (a ++ (b ++ (c ++ (d ++ e)))) y) :
    PEnd h₀ L m C D I oD oI nw₁ Rl s₁ y { s₁ with heap := h', toks := tk } := by
  refine PEnd.call (tl := a ++ (b ++ (c ++ (d ++ e)))) F (by simpa only [List.append_assoc] using N) n (fun q hq r hr => ?_) j
  rcases List.mem_append.mp hq with hq | hq
  · exact O5 q hq r (mem_appR (mem_appR (mem_appR (mem_appR hr))))
  rcases List.mem_append.mp hq with hq | hq
  · exact O4 q hq r (mem_appR (mem_appR (mem_appR hr)))
  rcases List.mem_append.mp hq with hq | hq
  · exact O3 q hq r (mem_appR (mem_appR hr))
  rcases List.mem_append.mp hq with hq | hq
  · exact O2 q hq r (mem_appR hr)
  · exact O1 q hq r hr
/-- the rows of glyphs made so far -/
def RowsJ (P : Params) (Rw : Addr) (m0 : Str → Option Value) (base : Led) (gss : List (List Gl)) (i : Nat) (m : Str → Option Value) (nw : Led) : Prop :=
  ∃ u rvs nR tl, m = upd (Str.ofString "row") u m0 ∧ nw = (Rw, listOf rvs.toArray nR) :: (tl ++ base) ∧ (∀ q ∈ tl, q.1 ≠ Rw ∧ ∀ r ∈ base, q.1 ≠ r.1) ∧ Paired (RowBy P (ML tl)) rvs (gss.take i)
theorem RowsJ.mem {P : Params} {Rw : Addr} {m0 : Str → Option Value} {base : Led} {gss : List (List Gl)} {i : Nat} {m : Str → Option Value} {nw : Led} (h : RowsJ P Rw m0 base gss i m nw) : ∀ q ∈ base, q ∈ nw := by
  obtain ⟨u, rvs, nR, tl, _, rfl, _⟩ := h
  exact fun q hq => .tail _ (mem_appR hq)
section
variable {p : Program} {loose : List Str} {w : World} {mean : ExcName → Option Value} {mg mb : Str → Option Value} {A : Around} {s : Shared} {Q E : Value → Shared → Prop}
theorem glyph_use (hA : Room 2 A) {h₀ : Heap} {L : Addr} {m : Str → Option Value} {nw a b c d : Led} {vt vx vy vw vh : Value} {g : Gl} (F : Fr h₀ L s.heap m) (X : (hd.heap_39 w.params).In h₀) (T : Top p loose mean mg mb h₀) (N : News h₀ L s.heap nw)
   (hx : DecBy w.params (ML a) vx (if (1 : Int) = 0 then 10 * g.x else g.x)) (hy : DecBy w.params (ML b) vy (if (1 : Int) = 0 then 10 * g.y else g.y)) (hw : DecBy w.params (ML c) vw (if (1 : Int) = 0 then 10 * g.w else g.w)) (hh : DecBy w.params (ML d) vh (if (1 : Int) = 0 then 10 * g.h else g.h))
   (ret : ∀ h' tk tl r, Fr h₀ L h' m → News h₀ L h' (tl ++ nw) → (∀ q ∈ tl, ∀ r ∈ nw, q.1 ≠ r.1) → GlyphBy w.params (ML (tl ++ (d ++ (c ++ (b ++ a))))) r g → Q r { s with heap := h', toks := tk }) :
   wpAny (model PySem.Challenge.pw_og0152_01 w) A (call (.ref 235) [vt, vx, vy, vw, vh]) Q E s := by
  rw [if_neg (by decide)] at hx hy hw hh
  refine glyph_new hA (frag_keeps X F.keep) (top_keeps T F.keep) (has := ML (d ++ (c ++ (b ++ a)))) (hx.mono fun _ _ h => mem_appR (mem_appR (mem_appR h))) (hy.mono fun _ _ h => mem_appR (mem_appR (mem_appL h))) (hw.mono fun _ _ h => mem_appR (mem_appL h)) (hh.mono fun _ _ h => mem_appL h) fun h' tk tl r e nn hg => ?_
  obtain ⟨F', N'⟩ := news_more F N e nn
  exact ret h' tk tl r F' N' (new_off N nn) (hg.mono fun _ _ h => h.elim (fun h => mem_appR h) fun h => mem_appL h)
end
local macro_rules | `(tactic| walk_at "call ref") => `(tactic| (k_here; (refine' glyph_use ?hA ?F ?X ?T ?N ?hx ?hy ?hw ?hh ?_; (case hA => walk_at "m_room"); (case F => k_asm); (case X => assumption); (case T => assumption); (case N => k_asm); (case hx => assumption); (case hy => assumption); (case hw => assumption); (case hh => assumption)); intro h' tk' tl' r' F' N' O' hg'; (try k_sweep)))
/-! part G9 -/
theorem permR1 {d i r : Addr × Obj} {x y : Led} : ∀ q ∈ r :: d :: i :: (x ++ y), q ∈ d :: (x ++ i :: r :: y) := by
  intro q hq
  simp only [List.mem_cons, List.mem_append, List.cons_append] at hq ⊢
  simp only [or_assoc, or_comm, or_left_comm] at hq ⊢
  exact hq
theorem permR2 {d i r : Addr × Obj} {x y z : Led} : ∀ q ∈ i :: r :: ((d :: (x ++ y)) ++ z), q ∈ r :: d :: i :: (x ++ (y ++ z)) := by
  intro q hq
  simp only [List.mem_cons, List.mem_append, List.cons_append] at hq ⊢
  simp only [or_assoc, or_comm, or_left_comm] at hq ⊢
  exact hq
section
variable {w : World} {A : Around} {s : Shared} {Q E : Value → Shared → Prop}
theorem rows_append {h₀ : Heap} {L D I R : Addr} {oI : Obj} {m : Str → Option Value} {gvs rvs : List Value} {c nR : Nat} {tl6 tl2 base : Led} (F : Fr h₀ L s.heap m) (N : News h₀ L s.heap ((D, listOf gvs.toArray c) :: (tl6 ++ (I, oI) :: (R, listOf rvs.toArray nR) :: (tl2 ++ base))))
    (ne : ∀ q ∈ tl6 ++ (I, oI) :: (R, listOf rvs.toArray nR) :: (tl2 ++ base), q.1 ≠ D) (oo : ∀ q ∈ tl6, ∀ r ∈ (I, oI) :: (R, listOf rvs.toArray nR) :: (tl2 ++ base), q.1 ≠ r.1) (hI : ∀ q ∈ (R, listOf rvs.toArray nR) :: (tl2 ++ base), q.1 ≠ I)
    (htl : ∀ q ∈ tl2, q.1 ≠ R ∧ ∀ r ∈ base, q.1 ≠ r.1) (hb : ∀ q ∈ base, q.1 ≠ R) (hz : rvs.length ≤ 1000000)
    (k : ∀ h' n', Fr h₀ L h' m → News h₀ L h' ((I, oI) :: (R, listOf (rvs ++ [Value.ref D]).toArray n') :: (((D, listOf gvs.toArray c) :: (tl6 ++ tl2)) ++ base)) → Q .none { s with heap := h' }) :
    wpAny (model PySem.Challenge.pw_og0152_01 w) A (call (.builtin "list.append") [.ref R, .ref D]) Q E s := by
  refine append_top F (news_perm N permR1) (fun q hq => ?_) hz fun h' n' F' N' => k h' n' F' (news_perm N' permR2)
  rcases List.mem_cons.mp hq with rfl | hq
  · exact Ne.symm (ne (R, listOf rvs.toArray nR) (mem_appR (.tail _ (.head _))))
  rcases List.mem_cons.mp hq with rfl | hq
  · exact Ne.symm (hI (R, listOf rvs.toArray nR) (.head _))
  rcases List.mem_append.mp hq with hq | hq
  · exact oo q hq (R, listOf rvs.toArray nR) (.tail _ (.head _))
  rcases List.mem_append.mp hq with hq | hq
  · exact (htl q hq).1
  · exact hb q hq
end
theorem rows_end {P : Params} {h₀ h' : Heap} {L D I R : Addr} {oI : Obj} {m0 : Str → Option Value} {v u : Option Value} {gvs rvs : List Value} {c nR n' i tk : Nat} {tl6 tl2 base : Led} {gss : List (List Gl)} {gs : List Gl} {s₁ : Shared}
    (F : Fr h₀ L h' (fun y => if y = Str.ofString "row" then v else upd (Str.ofString "row") u m0 y)) (N : News h₀ L h' ((I, oI) :: (R, listOf (rvs ++ [Value.ref D]).toArray n') :: (((D, listOf gvs.toArray c) :: (tl6 ++ tl2)) ++ base)))
    (ne : ∀ q ∈ tl6 ++ (I, oI) :: (R, listOf rvs.toArray nR) :: (tl2 ++ base), q.1 ≠ D) (oo : ∀ q ∈ tl6, ∀ r ∈ (I, oI) :: (R, listOf rvs.toArray nR) :: (tl2 ++ base), q.1 ≠ r.1) (hI : ∀ q ∈ (R, listOf rvs.toArray nR) :: (tl2 ++ base), q.1 ≠ I)
    (htl : ∀ q ∈ tl2, q.1 ≠ R ∧ ∀ r ∈ base, q.1 ≠ r.1) (hp : Paired (RowBy P (ML tl2)) rvs (gss.take i)) (hgs : gss[i]? = some gs) (hq : Paired (GlyphBy P (HU (fun _ _ => False) tl6)) gvs gs) :
    TurnEnd h₀ L I oI (RowsJ P R m0 base gss (i + 1)) s₁ .next { s₁ with heap := h', toks := tk } := by
  rw [upd_upd] at F
  refine TurnEnd.mk' F N (fun q hq => ?_) ⟨v, _, _, (D, listOf gvs.toArray c) :: (tl6 ++ tl2), rfl, rfl, fun q hq => ?_, ?_⟩
  · rcases List.mem_cons.mp hq with rfl | hq
    · exact (hI (R, listOf rvs.toArray nR) (.head _) : R ≠ I)
    rcases List.mem_append.mp hq with hq | hq
    · rcases List.mem_cons.mp hq with rfl | hq
      · exact Ne.symm (ne (I, oI) (mem_appR (.head _)))
      rcases List.mem_append.mp hq with hq | hq
      · exact oo q hq (I, oI) (.head _)
      · exact hI q (.tail _ (mem_appL hq))
    · exact hI q (.tail _ (mem_appR hq))
  · rcases List.mem_cons.mp hq with rfl | hq
    · exact ⟨Ne.symm (ne (R, listOf rvs.toArray nR) (mem_appR (.tail _ (.head _)))), fun r hr => Ne.symm (ne r (mem_appR (.tail _ (.tail _ (mem_appR hr)))))⟩
    rcases List.mem_append.mp hq with hq | hq
    · exact ⟨oo q hq (R, listOf rvs.toArray nR) (.tail _ (.head _)), fun r hr => oo q hq r (.tail _ (.tail _ (mem_appR hr)))⟩
    · exact htl q hq
  · rw [List.take_add_one, hgs]
    refine Paired.snoc (Paired.mono' (fun _ _ h => h.mono fun _ _ h => .tail _ (mem_appR h)) hp) ⟨gvs, ⟨D, c, rfl, .head _⟩, Paired.mono' (fun _ _ h => h.mono fun _ _ h => .tail _ (mem_appL (h.elim False.elim id))) hq⟩
theorem allLt_mem {d : Addr} {l : Led} (h : AllLt d l) : ∀ q ∈ l, q.1 < d := by
  induction l with
  | nil => intro q hq; cases hq
  | cons p r ih =>
    intro q hq
    rcases List.mem_cons.mp hq with rfl | hq
    · exact h.1
    · exact ih h.2 q hq
/-! part G10 -/
/-- the end of an element: what stands, what was added, what the block's names still are -/
def EltEndK (K : (Str → Option Value) → Prop) (h₀ : Heap) (L : Addr) (m : Str → Option Value) (C D I : Addr) (oD oI : Obj) (J : Led → Prop) (s₁ s₄ : Shared) : Prop :=
  ∃ h' tk nw' oC' mC', s₄ = { s₁ with heap := h', toks := tk } ∧ Fr h₀ L h' m ∧ News h₀ L h' ((C, oC') :: (D, oD) :: (I, oI) :: nw') ∧ NsO oC' mC' ∧ Off C D I nw' ∧ J nw' ∧ K mC'
theorem EltEndK.mk' {K : (Str → Option Value) → Prop} {h₀ h' : Heap} {L : Addr} {m : Str → Option Value} {C D I : Addr} {oD oI oC' : Obj} {mC' : Str → Option Value} {J : Led → Prop} {s₁ : Shared} {tk : Nat} {nw' : Led} (F : Fr h₀ L h' m) (N : News h₀ L h' ((C, oC') :: (D, oD) :: (I, oI) :: nw')) (n : NsO oC' mC') (o : Off C D I nw') (j : J nw') (k : K mC') :
    EltEndK K h₀ L m C D I oD oI J s₁ { s₁ with heap := h', toks := tk } := ⟨h', tk, nw', oC', mC', rfl, F, N, n, o, j, k⟩
section
variable {w : World} {A : Around} {s : Shared}
theorem comp_coreK {e : Expr} {k : Nat} {target iter : Expr} {ifs : List Expr} {elt : Expr} {gens : List Comprehension} {scope : Scope} {pos : Pos} (he : e = .ListComp elt gens scope pos) (hg : gens[k]? = some ⟨target, iter, ifs, 0⟩) (hl : gens[k + 1]? = none)
    {h₀ : Heap} {L : Addr} {m : Str → Option Value} {nw : Led} {cenv : Env} {C D I : Addr} {src : List Addr} {n : Nat} {P : Nat → Value → Prop} {St : Nat → Heap → Prop} {R : Result → Shared → Prop} {mC : Str → Option Value} {ys₀ : List Value}
    (J : Nat → Led → List Value → Prop) (K : (Str → Option Value) → Prop)
    (W : Walks PySem.Challenge.pw_og0152_01 w A I (I :: src) [I] n P St) (live : ∀ i h, St i h → ∃ o, h.get? I = some o)
    (quiet : ∀ i (s : Shared) t u (Q : Unit → Shared → Prop) (E : Value → Shared → Prop), St i s.heap → Q () s → wpAny (model PySem.Challenge.pw_og0152_01 w) A (letOwnedTupleGo t (.ref I) u) Q E s)
    (F : Fr h₀ L s.heap m) (N : News h₀ L s.heap nw) (hst : St 0 s.heap) (hacc : s.heap.PlainList D ys₀.toArray) (hns : s.heap.Ns C mC) (hC : cenv.locals = C)
    (hCD : C ≠ D) (hCI : C ≠ I) (hDI : D ≠ I) (hCL : C ≠ L) (hDL : D ≠ L) (hIL : I ≠ L) (hC0 : h₀.get? C = none) (hD0 : h₀.get? D = none) (hI0 : h₀.get? I = none) (off : Off C D I nw)
    (hsrc : ∀ b ∈ src, b ≠ C ∧ b ≠ D ∧ ((∃ o, h₀.get? b = some o) ∨ ∃ o, ∀ i nw ys, J i nw ys → (b, o) ∈ nw))
    (h0 : J 0 nw ys₀) (hK0 : K mC) (hlen : ∀ i nw ys, J i nw ys → ys.length ≤ 1000000)
    (turn : ∀ i u ys nw₁ oC mC oD oI s₁, i < n → P i u → J i nw₁ ys → Fr h₀ L s₁.heap m → News h₀ L s₁.heap ((C, oC) :: (D, oD) :: (I, oI) :: nw₁) → NsO oC mC → K mC → Off C D I nw₁ →
      wpAny (model PySem.Challenge.pw_og0152_01 w) A (assign target cenv u) (fun _ s₂ => wpAny (model PySem.Challenge.pw_og0152_01 w) A (tests ifs cenv) (fun ok s₃ =>
        if ok = true then wpAny (model PySem.Challenge.pw_og0152_01 w) A (eval elt cenv) (fun y s₄ => EltEndK K h₀ L m C D I oD oI (fun nw' => J (i + 1) nw' (ys ++ [y])) s₁ s₄) (fun _ _ => False) s₃
        else EltEndK K h₀ L m C D I oD oI (fun nw' => J (i + 1) nw' ys) s₁ s₃) (fun _ _ => False) s₂) (fun _ _ => False) s₁)
    (done : ∀ h' tk nw' ys mC', Fr h₀ L h' m → News h₀ L h' nw' → h'.PlainList D ys.toArray → h'.Ns C mC' → Off C D I nw' → (∀ b o, b ∈ src → s.heap.get? b = some o → h'.get? b = some o) → J n nw' ys → R (.ok .next) { s with heap := h', toks := tk }) :
    codeAny (model PySem.Challenge.pw_og0152_01 w) A (.compLoop e k (.ref I) (.ref D) cenv) R s := by
  have upd : ∀ {h h' : Heap} {C' : Addr}, (∀ b o, b ≠ C' → h.get? b = some o → h'.get? b = some o) → C' ≠ L → h₀.get? C' = none → Fr h₀ L h m → Fr h₀ L h' m := fun hk hL h0' F =>
    ⟨F.ns.at' fun o e => hk _ o (Ne.symm hL) e, fun b o e => hk b o (by rintro rfl; rw [h0'] at e; cases e) (F.keep b o e), F.above⟩
  refine codeAny_loop rfl (fun j s' => ∃ i nw₁ ys h' tk mC₁, s' = { s with heap := h', toks := tk } ∧ Fr h₀ L h' m ∧ News h₀ L h' nw₁ ∧ h'.PlainList D ys.toArray ∧ h'.Ns C mC₁ ∧ K mC₁ ∧ Off C D I nw₁ ∧ J i nw₁ ys ∧ St i h' ∧ (∀ b o, b ∈ src → s.heap.get? b = some o → h'.get? b = some o) ∧ i ≤ n ∧ j = n + 1 - i) ?_ (n + 1)
    ⟨0, nw, ys₀, s.heap, s.toks, mC, rfl, F, N, hacc, hns, hK0, off, h0, hst, (fun _ _ _ e => e), Nat.zero_le _, rfl⟩
  rintro j s' ⟨i, nw₁, ys, h', tk, mC₁, rfl, F₁, N₁, hD₁, hN₁, hK₁, off₁, hJ, hst₁, hsk, hi, rfl⟩
  subst he
  show wpAny _ A ((compTurn (.ListComp elt gens scope pos) k (.ref I) (.ref D) cenv).onRaise (fun x => do noteFrame x cenv; theTreesLotGoes x)) _ _ _
  refine wpAny_noted ?_
  rw [gen_turn rfl hg hl]
  refine wpAny_bind (wpAny_standAt (wpAny_bind ?_))
  by_cases hlt : i < n
  · refine W.item i _ _ _ hlt hst₁ fun u h₂ tk₂ hP hst₂ hk₂ => ?_
    have hk₂' : ∀ b o, b ≠ I → h'.get? b = some o → h₂.get? b = some o := fun b o hb e => hk₂ b o (by simpa using hb) e
    have F₂ := upd hk₂' hIL hI0 F₁
    obtain ⟨oI, hoI⟩ := live (i + 1) h₂ hst₂
    obtain ⟨oC, hoC, nC⟩ := NsO.of (hN₁.at' fun o e => hk₂' C o hCI e)
    obtain ⟨cD, hoD⟩ := hD₁.at fun o e => hk₂' D o hDI e
    have N₂ : News h₀ L h₂ ((C, oC) :: (D, _) :: (I, oI) :: nw₁) := fun q hq => by
      rcases List.mem_cons.mp hq with rfl | hq
      · exact ⟨hoC, hCL, hC0⟩
      rcases List.mem_cons.mp hq with rfl | hq
      · exact ⟨hoD, hDL, hD0⟩
      rcases List.mem_cons.mp hq with rfl | hq
      · exact ⟨hoI, hIL, hI0⟩
      · exact ⟨hk₂' _ _ (off₁ q hq).2.2 (N₁ q hq).1, (N₁ q hq).2⟩
    have srcAt : ∀ b ∈ src, ∃ o, h₂.get? b = some o ∧ ∀ (h₅ : Heap) (nw₅ : Led) ys₅ i₅, Fr h₀ L h₅ m → News h₀ L h₅ nw₅ → J i₅ nw₅ ys₅ → h₅.get? b = some o := fun b hb => by
      rcases (hsrc b hb).2.2 with ⟨o, ho⟩ | ⟨o, ho⟩
      · exact ⟨o, F₂.keep _ _ ho, fun h₅ _ _ _ F₅ _ _ => F₅.keep _ _ ho⟩
      · exact ⟨o, (N₂ _ (.tail _ (.tail _ (.tail _ (ho _ _ _ hJ))))).1, fun h₅ nw₅ ys₅ i₅ _ N₅ J₅ => (N₅ _ (ho _ _ _ J₅)).1⟩
    dsimp only
    refine wpAny_bind (quiet (i + 1) _ _ _ _ _ hst₂ ?_)
    refine wpAny_bind (wpAny_mono (turn i u ys nw₁ oC _ _ oI { s with heap := h₂, toks := tk₂ } hlt hP hJ F₂ N₂ nC hK₁ off₁) (fun _ s₂ h₃ => ?_) fun _ _ f => f.elim)
    refine wpAny_bind (wpAny_mono h₃ (fun ok s₃ h₄ => ?_) fun _ _ f => f.elim)
    cases ok with
    | false =>
      simp only [Bool.false_eq_true, if_false] at h₄ ⊢
      obtain ⟨h₅, tk₅, nw₅, oC₅, mC₅, rfl, F₅, N₅, n₅, off₅, hJ₅, hK₅⟩ := h₄
      have N₅' : News h₀ L h₅ nw₅ := fun q hq => N₅ q (.tail _ (.tail _ (.tail _ hq)))
      refine wpAny_pure ⟨rfl, n + 1 - (i + 1), by omega, i + 1, nw₅, ys, h₅, tk₅, mC₅, rfl, F₅, N₅', ⟨cD, (N₅ _ (.tail _ (.head _))).1⟩, n₅.ns (N₅ _ (.head _)).1, hK₅, off₅, hJ₅, ?_, ?_, hlt, rfl⟩
      · refine W.frame _ _ _ hst₂ fun b hb o eo => ?_
        rcases List.mem_cons.mp hb with rfl | hb
        · rw [hoI] at eo; cases eo; exact (N₅ _ (.tail _ (.tail _ (.head _)))).1
        · obtain ⟨o', e1, e2⟩ := srcAt b hb
          rw [e1] at eo; cases eo
          exact e2 h₅ nw₅ ys (i + 1) F₅ N₅' hJ₅
      · intro b o hb eo
        obtain ⟨o', e1, e2⟩ := srcAt b hb
        have e3 := hk₂' b o (fun q => by
          subst q
          exact absurd (hsk _ _ hb eo) (by
            intro e4
            rcases (hsrc _ hb).2.2 with ⟨o5, ho⟩ | ⟨o5, ho⟩
            · rw [hI0] at ho; cases ho
            · exact (off₁ _ (ho _ _ _ hJ)).2.2 rfl)) (hsk b o hb eo)
        rw [e1] at e3; cases e3
        exact e2 h₅ nw₅ ys (i + 1) F₅ N₅' hJ₅
    | true =>
      simp only [if_true] at h₄ ⊢
      refine wpAny_bind (wpAny_bind (wpAny_mono h₄ (fun y s₄ h₆ => ?_) fun _ _ f => f.elim))
      obtain ⟨h₅, tk₅, nw₅, oC₅, mC₅, rfl, F₅, N₅, n₅, off₅, hJ₅, hK₅⟩ := h₆
      refine wpAny_bind (wpAny_list_append_plain ⟨cD, (N₅ _ (.tail _ (.head _))).1⟩ (fun h₆ hl₆ hs₆ => ?_) ?_)
      · have hk₆ : ∀ b o, b ≠ D → h₅.get? b = some o → h₆.get? b = some o := fun b o hb e => hs₆.extBut b o hb e
        have F₆ := upd hk₆ hDL hD0 F₅
        have N₆ : News h₀ L h₆ nw₅ := fun q hq => ⟨hk₆ _ _ (off₅ q hq).2.1 (N₅ q (.tail _ (.tail _ (.tail _ hq)))).1, (N₅ q (.tail _ (.tail _ (.tail _ hq)))).2⟩
        refine wpAny_pure (wpAny_pure ⟨rfl, n + 1 - (i + 1), by omega, i + 1, nw₅, ys ++ [y], h₆, tk₅, mC₅, rfl, F₆, N₆, by simpa using hl₆, (n₅.ns (N₅ _ (.head _)).1).at' fun o e => hk₆ C o hCD e, hK₅, off₅, hJ₅, ?_, ?_, hlt, rfl⟩)
        · refine W.frame _ _ _ hst₂ fun b hb o eo => ?_
          rcases List.mem_cons.mp hb with rfl | hb
          · rw [hoI] at eo; cases eo; exact hk₆ _ _ (Ne.symm hDI) (N₅ _ (.tail _ (.tail _ (.head _)))).1
          · obtain ⟨o', e1, e2⟩ := srcAt b hb
            rw [e1] at eo; cases eo
            exact e2 h₆ nw₅ _ (i + 1) F₆ N₆ hJ₅
        · intro b o hb eo
          obtain ⟨o', e1, e2⟩ := srcAt b hb
          have e3 := hk₂' b o (fun q => by
            subst q
            exact absurd (hsk _ _ hb eo) (by
              intro e4
              rcases (hsrc _ hb).2.2 with ⟨o5, ho⟩ | ⟨o5, ho⟩
              · rw [hI0] at ho; cases ho
              · exact (off₁ _ (ho _ _ _ hJ)).2.2 rfl)) (hsk b o hb eo)
          rw [e1] at e3; cases e3
          exact e2 h₆ nw₅ _ (i + 1) F₆ N₆ hJ₅
      · have := hlen _ _ _ hJ
        rw [List.size_toArray, sizeLine_eq]; omega
  · have hin : i = n := by omega
    subst hin
    refine W.done _ _ _ hst₁ fun h₂ tk₂ hk₂ => ?_
    have hk₂' : ∀ b o, b ≠ I → h'.get? b = some o → h₂.get? b = some o := fun b o hb e => hk₂ b o (by simpa using hb) e
    refine wpAny_pure (done h₂ tk₂ nw₁ ys mC₁ (upd hk₂' hIL hI0 F₁) (fun q hq => ⟨hk₂' _ _ (off₁ q hq).2.2 (N₁ q hq).1, (N₁ q hq).2⟩) (hD₁.at fun o e => hk₂' D o hDI e) (hN₁.at' fun o e => hk₂' C o hCI e) off₁ (fun b o hb e => hk₂' b o (fun q => by
        subst q
        rcases (hsrc _ hb).2.2 with ⟨o5, ho⟩ | ⟨o5, ho⟩
        · rw [hI0] at ho; cases ho
        · exact (off₁ _ (ho _ _ _ hJ)).2.2 rfl) (hsk b o hb e)) hJ)
end
/-! part G11 -/
def PEndK (K : (Str → Option Value) → Prop) (h₀ : Heap) (L : Addr) (m : Str → Option Value) (C D I : Addr) (oD oI : Obj) (nw₁ : Led) (Rl : Led → Value → Prop) (s₁ : Shared) (y : Value) (s₄ : Shared) : Prop :=
  ∃ h' tk tl oC' mC', s₄ = { s₁ with heap := h', toks := tk } ∧ Fr h₀ L h' m ∧ News h₀ L h' ((C, oC') :: (D, oD) :: (I, oI) :: (tl ++ nw₁)) ∧ NsO oC' mC' ∧ Off C D I tl ∧ (∀ q ∈ tl, ∀ r ∈ nw₁, q.1 ≠ r.1) ∧ Rl tl y ∧ K mC'
/-- the end of an inner source: a list that stands in the ledger -/
def SrcEnd (K : (Str → Option Value) → Prop) (h₀ : Heap) (L : Addr) (m : Str → Option Value) (C D I : Addr) (oD oI : Obj) (nw nw₁ : Led) (Src : List Value → Prop) (s₁ : Shared) (x : Value) (s₃ : Shared) : Prop :=
  ∃ h' tk a vs n oC' mC', x = .ref a ∧ s₃ = { s₁ with heap := h', toks := tk } ∧ Fr h₀ L h' m ∧ News h₀ L h' ((C, oC') :: (D, oD) :: (I, oI) :: nw₁) ∧ NsO oC' mC' ∧ (a, listOf vs.toArray n) ∈ nw ∧ Src vs ∧ K mC'
theorem flat_take {β : Type} {bss : List (List β)} {i : Nat} {bs : List β} (h : bss[i]? = some bs) : (bss.take (i + 1)).flatten = (bss.take i).flatten ++ bs := by
  rw [List.take_add_one, h, List.flatten_append]; simp
theorem flat_le {β : Type} {bss : List (List β)} {i : Nat} : (bss.take i).flatten.length ≤ bss.flatten.length := by
  conv => rhs; rw [← List.take_append_drop i bss, List.flatten_append, List.length_append]
  omega
section
variable {w : World} {A : Around} {s : Shared}
theorem comp_pure2 {β : Type} (Rel : (Addr → Obj → Prop) → Value → β → Prop) (mono : ∀ {has has' : Addr → Obj → Prop} {v b}, (∀ a o, has a o → has' a o) → Rel has v b → Rel has' v b) (has : Addr → Obj → Prop) (bss : List (List β)) (K : Nat → (Str → Option Value) → Prop) (Src : Nat → List Value → Prop)
    {h₀ : Heap} {m : Str → Option Value} {nw : Led} {env : Env} {E : Value → Shared → Prop} {scope : Scope} {cl : List (Str × Addr)} {use : Option (Value → Sem Unit)} {Q : Value → Shared → Prop} {xv : Value} {src : List Addr} {n : Nat} {P : Nat → Value → Prop} {St : Addr → Nat → Heap → Prop}
    {elt target iter target' iter' : Expr} {pos : Pos} (hh : A.handled = none)
    (hcell : ∀ y ∈ scope.names, y.2 ≠ .cell) (hkind : scope.kind = .function)
    (it : Iter w A s xv src n P St) (F : Fr h₀ env.locals s.heap m) (N : News h₀ env.locals s.heap nw)
    (hsrc : ∀ b ∈ src, (∃ o, h₀.get? b = some o) ∨ ∃ o, (b, o) ∈ nw)
    (hn : n = bss.length) (hlen : bss.flatten.length ≤ 1000000)
    (hs : ∀ C x, foldedSetIterable iter' (compEnvC scope cl C env) x = pure x)
    (hSrc : ∀ (i : Nat) (bs : List β) (vs : List Value), bss[i]? = some bs → Src i vs → vs.length = bs.length)
    (level : ∀ C D I i u bs nw₁ oC mC oD oI s₁, Three h₀ env.locals C D I → P i u → bss[i]? = some bs → Fr h₀ env.locals s₁.heap m → News h₀ env.locals s₁.heap ((C, oC) :: (D, oD) :: (I, oI) :: nw₁) → NsO oC mC → Off C D I nw₁ → (∀ q ∈ nw, q ∈ nw₁) →
      wpAny (model PySem.Challenge.pw_og0152_01 w) A (assign target (compEnvC scope cl C env) u) (fun _ s₂ => wpAny (model PySem.Challenge.pw_og0152_01 w) A (eval iter' (compEnvC scope cl C env)) (SrcEnd (K i) h₀ env.locals m C D I oD oI nw nw₁ (Src i) s₁) (fun _ _ => False) s₂) (fun _ _ => False) s₁)
    (turn : ∀ C D I (i j : Nat) (vs : List Value) v (bs : List β) b nw₁ oC mC oD oI s₁, Three h₀ env.locals C D I → bss[i]? = some bs → Src i vs → vs[j]? = some v → bs[j]? = some b → Fr h₀ env.locals s₁.heap m → News h₀ env.locals s₁.heap ((C, oC) :: (D, oD) :: (I, oI) :: nw₁) → NsO oC mC → K i mC → Off C D I nw₁ → (∀ q ∈ nw, q ∈ nw₁) →
      wpAny (model PySem.Challenge.pw_og0152_01 w) A (assign target' (compEnvC scope cl C env) v) (fun _ s₂ => wpAny (model PySem.Challenge.pw_og0152_01 w) A (eval elt (compEnvC scope cl C env)) (PEndK (K i) h₀ env.locals m C D I oD oI nw₁ (fun tl y => Rel (HU has tl) y b) s₁) (fun _ _ => False) s₂) (fun _ _ => False) s₁)
    (fin : ∀ C D I h' tk tl ys mC c, Three h₀ env.locals C D I → Fr h₀ env.locals h' m → News h₀ env.locals h' ((D, listOf ys.toArray c) :: (tl ++ nw)) → h'.Ns C mC → Off C D I (tl ++ nw) → (∀ q ∈ tl, ∀ r ∈ nw, q.1 ≠ r.1) → Paired (Rel (HU has tl)) ys bss.flatten → compPost (model PySem.Challenge.pw_og0152_01 w) A E use Q (.ref D) C (.ok .next) { s with heap := h', toks := tk }) :
    CompGo w A E env scope cl (.ListComp elt [⟨target, iter, [], 0⟩, ⟨target', iter', [], 0⟩] scope pos) use Q xv s := by
  refine comp_open rfl hcell hkind it F N fun C D I s' h' tk mC es TT F₁ N₁ off hacc hns hst hI hC hD => ?_
  subst es
  refine comp_core2 rfl rfl rfl (fun i nw' ys => ∃ tl, nw' = tl ++ nw ∧ (∀ q ∈ tl, ∀ r ∈ nw, q.1 ≠ r.1) ∧ Paired (Rel (HU has tl)) ys (bss.take i).flatten) (it.walks I hI) (it.live I) (it.quiet I) F₁ N₁ hst (ys₀ := []) hacc hns TT.CD TT.CI TT.DI TT.CL TT.DL TT.IL TT.C0 TT.D0 TT.I0 off
    (fun b hb => ⟨fun q => hC (q ▸ hb), fun q => hD (q ▸ hb), (hsrc b hb).elim .inl fun ⟨o, h⟩ => .inr ⟨o, fun i nw' ys ⟨tl, e, _⟩ => e ▸ mem_appR h⟩⟩) ⟨[], rfl, (fun _ h => nomatch h), .nil⟩ (hs C) ?_ ?_
  · rintro i u ys nw₁ oC mC oI s₁ hi hP ⟨tl, rfl, ho, hp⟩ F₁ N₁ ⟨cD, hcD⟩ nC off₁
    obtain ⟨bs, hbs⟩ : ∃ bs, bss[i]? = some bs := ⟨bss[i]'(by omega), by simp⟩
    have N₁' : News h₀ env.locals s₁.heap ((C, oC) :: (D, listOf ys.toArray cD) :: (I, oI) :: (tl ++ nw)) := fun q hq => by
      rcases List.mem_cons.mp hq with rfl | hq
      · exact N₁ _ (.head _)
      rcases List.mem_cons.mp hq with rfl | hq
      · exact ⟨hcD, TT.DL, TT.D0⟩
      · exact N₁ q (.tail _ hq)
    refine wpAny_mono (level C D I i u bs _ oC mC _ oI s₁ TT hP hbs F₁ N₁' nC off₁ fun q hq => mem_appR hq) (fun _ s₂ h₂ => wpAny_mono h₂ (fun x s₃ h₃ => ?_) fun _ _ f => f) fun _ _ f => f
    obtain ⟨h₃, tk₃, a, vs, nv, oC₃, mC₃, rfl, rfl, F₃, N₃, n₃, hm, hv, hK⟩ := h₃
    have hvl : vs.length = bs.length := hSrc i bs vs hbs hv
    have it2 : Iter w A { s₁ with heap := h₃, toks := tk₃ } (.ref a) [a] vs.toArray.size (fun i v => vs.toArray[i]? = some v) (fun I i h => h.IsListIter I a i ∧ h.IsList a vs.toArray) := Iter.list hh ⟨_, (N₃ _ (.tail _ (.tail _ (.tail _ (mem_appR hm))))).1, rfl, _, rfl⟩
    have hal := off₁ _ (mem_appR hm)
    refine it2.start _ _ fun oI2 _ hst2 => ?_
    have hI2 : ∀ b o, h₃.get? b = some o → b ≠ h₃.objs.size := fun b o e => Nat.ne_of_lt (Heap.lt_size e)
    have hI2n : h₃.get? h₃.objs.size = none := fresh_none (Nat.le_refl _)
    have e0 : h₀.get? h₃.objs.size = none := by
      cases q : h₀.get? h₃.objs.size with
      | none => rfl
      | some o => rw [F₃.keep _ _ q] at hI2n; cases hI2n
    have old : ∀ b o, h₃.get? b = some o → (h₃.push oI2).get? b = some o := fun b o e => Heap.get?_push_of_some _ e
    have F₄ : Fr h₀ env.locals (h₃.push oI2) m := ⟨F₃.ns.at' fun o e => old _ o e, fun b o e => old b o (F₃.keep b o e), F₃.above⟩
    have N₄ : News h₀ env.locals (h₃.push oI2) ((C, oC₃) :: (D, listOf ys.toArray cD) :: (I, oI) :: (tl ++ nw)) := fun q hq => ⟨old _ _ (N₃ q hq).1, (N₃ q hq).2⟩
    have TT2 : Three h₀ env.locals C D h₃.objs.size := ⟨TT.CD, hI2 _ _ (N₃ _ (.head _)).1, hI2 _ _ (N₃ _ (.tail _ (.head _))).1, TT.CL, TT.DL, Ne.symm (by obtain ⟨o, _, _, ho, _⟩ := F₃.ns; exact hI2 _ _ ho), TT.C0, TT.D0, e0, TT.LC⟩
    have off2 : Off C D h₃.objs.size ((I, oI) :: (tl ++ nw)) := fun q hq => by
      refine ⟨?_, ?_, hI2 _ _ (N₃ q (.tail _ (.tail _ hq))).1⟩
      · rcases List.mem_cons.mp hq with rfl | hq
        · exact Ne.symm TT.CI
        · exact (off₁ q hq).1
      · rcases List.mem_cons.mp hq with rfl | hq
        · exact Ne.symm TT.DI
        · exact (off₁ q hq).2.1
    have hI2s : h₃.objs.size ∉ [a] := fun h => by
      rw [List.mem_singleton] at h
      exact hI2 a _ (N₃ _ (.tail _ (.tail _ (.tail _ (mem_appR hm))))).1 h.symm
    have W2 := it2.walks h₃.objs.size hI2s
    have loop : ∀ tk, codeAny (model PySem.Challenge.pw_og0152_01 w) A (.compLoop (.ListComp elt [⟨target, iter, [], 0⟩, ⟨target', iter', [], 0⟩] scope pos) 1 (.ref h₃.objs.size) (.ref D) (compEnvC scope cl C env)) (fun r s₅ => match r with | .ok _ => LvlEnd h₀ env.locals m C D I oI (fun nw' ys' => ∃ tl, nw' = tl ++ nw ∧ (∀ q ∈ tl, ∀ r ∈ nw, q.1 ≠ r.1) ∧ Paired (Rel (HU has tl)) ys' (bss.take (i + 1)).flatten) s₁ s₅ | .error _ => False) { s₁ with heap := h₃.push oI2, toks := tk } := fun tk => by
      refine comp_coreK rfl rfl rfl (fun j nw' ys' => ∃ t2, nw' = t2 ++ (I, oI) :: (tl ++ nw) ∧ (∀ q ∈ t2, ∀ r ∈ (I, oI) :: (tl ++ nw), q.1 ≠ r.1) ∧ Paired (Rel (HU has (t2 ++ tl))) ys' ((bss.take i).flatten ++ bs.take j)) (K i) W2 (it2.live _) (it2.quiet _) (nw := (I, oI) :: (tl ++ nw)) F₄ (fun q hq => N₄ q (.tail _ (.tail _ hq))) hst2 (ys₀ := ys) ⟨cD, (N₄ _ (.tail _ (.head _))).1⟩ (n₃.ns (N₄ _ (.head _)).1) rfl TT2.CD TT2.CI TT2.DI TT2.CL TT2.DL TT2.IL TT2.C0 TT2.D0 TT2.I0 off2
        (fun b hb => by rw [List.mem_singleton.mp hb]; exact ⟨hal.1, hal.2.1, .inr ⟨_, fun j nw' ys' ⟨t2, e, _⟩ => e ▸ mem_appR (.tail _ (mem_appR hm))⟩⟩)
        ⟨[], rfl, (fun _ h => nomatch h), by rw [List.take_zero, List.append_nil]; exact hp⟩ hK ?_ ?_ ?_
      · rintro j nw' ys' ⟨t2, _, _, h⟩
        rw [h.length, List.length_append, List.length_take]
        have e1 : (bss.take (i + 1)).flatten.length ≤ bss.flatten.length := flat_le
        rw [flat_take hbs, List.length_append] at e1
        omega
      · rintro j v ys' nw₂ oC₂ mC₂ oD₂ oI₂ s₂ hj hv2 ⟨t2, rfl, ho2, hp2⟩ F₅ N₅ n₅ hK₅ off₅
        obtain ⟨b, hb⟩ : ∃ b, bs[j]? = some b := ⟨bs[j]'(by rw [List.size_toArray] at hj; omega), by simp⟩
        refine wpAny_mono (turn C D h₃.objs.size i j vs v bs b _ oC₂ mC₂ oD₂ oI₂ s₂ TT2 hbs hv (by simpa using hv2) hb F₅ N₅ n₅ hK₅ off₅ fun q hq => mem_appR (.tail _ (mem_appR hq))) (fun _ s₆ h₆ => tests_nil ?_) fun _ _ f => f.elim
        rw [if_pos rfl]
        refine wpAny_mono h₆ (fun y s₇ h₇ => ?_) fun _ _ f => f.elim
        obtain ⟨h₇, tk₇, t3, oC₇, mC₇, rfl, F₇, N₇, n₇, off₇, ho₇, hR₇, hK₇⟩ := h₇
        refine EltEndK.mk' F₇ N₇ n₇ (off₇.append off₅) ⟨t3 ++ t2, (List.append_assoc ..).symm, (fun q hq r hr => (List.mem_append.mp hq).elim (fun h => ho₇ q h r (mem_appR hr)) fun h => ho2 q h r hr), ?_⟩ hK₇
        have e : bs.take (j + 1) = bs.take j ++ [b] := by rw [List.take_add_one, hb]; rfl
        rw [e, ← List.append_assoc]
        exact Paired.snoc (Paired.mono' (fun _ _ h => mono (HU.grow fun q hq => by rw [List.append_assoc]; exact mem_appR hq) h) hp2) (mono (HU.grow fun q hq => by rw [List.append_assoc]; exact mem_appL hq) hR₇)
      · rintro h₈ tk₈ nw₈ ys₈ mC₈ F₈ N₈ hD₈ hN₈ off₈ _ ⟨t2, rfl, ho2, hp2⟩
        obtain ⟨oC₈, hoC₈, n₈⟩ := NsO.of hN₈
        refine ⟨h₈, tk₈, t2 ++ (tl ++ nw), oC₈, mC₈, ys₈, rfl, F₈, fun q hq => ?_, hD₈, n₈, fun q hq => ?_, t2 ++ tl, (List.append_assoc ..).symm, (fun q hq r hr => (List.mem_append.mp hq).elim (fun h => ho2 q h r (.tail _ (mem_appR hr))) fun h => ho q h r hr), ?_⟩
        · rcases List.mem_cons.mp hq with rfl | hq
          · exact ⟨hoC₈, TT.CL, TT.C0⟩
          rcases List.mem_cons.mp hq with rfl | hq
          · exact N₈ _ (mem_appR (.head _))
          rcases List.mem_append.mp hq with hq | hq
          · exact N₈ q (mem_appL hq)
          · exact N₈ q (mem_appR (.tail _ hq))
        · rcases List.mem_append.mp hq with hq | hq
          · exact ⟨(off₈ q (mem_appL hq)).1, (off₈ q (mem_appL hq)).2.1, ho2 q hq (I, oI) (.head _)⟩
          · exact off₁ q hq
        · rw [flat_take hbs]
          rw [List.size_toArray, hvl, List.take_length] at hp2
          exact hp2
    exact comp_startk rfl rfl (loop _) (W2.self 0 _ _ _ hst2 (loop _))
  · rintro h₂ tk₂ nw₂ ys mC₂ F₂ N₂ ⟨c, hc⟩ hN₂ off₂ ⟨tl, rfl, ho, hp⟩
    rw [hn, List.take_length] at hp
    refine fin C D I h₂ tk₂ tl ys mC₂ c TT F₂ (fun q hq => ?_) hN₂ off₂ ho hp
    rcases List.mem_cons.mp hq with rfl | hq
    · exact ⟨hc, TT.DL, TT.D0⟩
    · exact N₂ q hq
end
/-! part G12 -/
/-- a place in the order of reading: the row's number and the four numbers -/
def PairBy (has : Addr → Obj → Prop) (v : Value) (p : Nat × Gl) : Prop := ∃ a n t q, v = .ref a ∧ has a (tupOf #[.int p.1 t, q] n) ∧ QuadBy has q p.2
theorem PairBy.mono {has has' : Addr → Obj → Prop} {v : Value} {p : Nat × Gl} (k : ∀ a o, has a o → has' a o) (h : PairBy has v p) : PairBy has' v p := let ⟨a, n, t, q, e, h1, h2⟩ := h; ⟨a, n, t, q, e, k _ _ h1, h2.mono k⟩
def tagged (gss : List (List Gl)) : List (List (Nat × Gl)) := gss.mapIdx fun k gs => gs.map fun g => (k, g)
theorem tagged_get {gss : List (List Gl)} {i : Nat} {bs : List (Nat × Gl)} (h : (tagged gss)[i]? = some bs) : ∃ gs, gss[i]? = some gs ∧ bs = gs.map fun g => (i, g) := by
  unfold tagged at h
  rw [List.getElem?_mapIdx] at h
  cases e : gss[i]? with
  | none => rw [e] at h; cases h
  | some gs => rw [e] at h; exact ⟨gs, rfl, (Option.some.inj h).symm⟩
theorem tagged_len (gss : List (List Gl)) : (tagged gss).length = gss.length := by unfold tagged; simp
theorem flat_bound {β : Type} : ∀ (l : List (List β)), (∀ x ∈ l, x.length ≤ 4) → l.flatten.length ≤ 4 * l.length
  | [], _ => Nat.le_refl _
  | x :: r, h => by
    rw [List.flatten_cons, List.length_append, List.length_cons]
    have h1 := h x (.head _)
    have h2 := flat_bound r fun y hy => h y (.tail _ hy)
    omega
theorem tagged_bound {gss : List (List Gl)} (h : ∀ gs ∈ gss, gs.length ≤ 4) : (tagged gss).flatten.length ≤ 4 * gss.length := by
  rw [← tagged_len gss]
  refine flat_bound _ fun x hx => ?_
  obtain ⟨i, hi⟩ := List.getElem?_of_mem hx
  obtain ⟨gs, hg, rfl⟩ := tagged_get hi
  rw [List.length_map]
  exact h gs (List.mem_of_getElem? hg)
/-! part H1 -/
/-- of each row the glyphs between the places -/
def parts : List (List Gl) → Nat → Nat → List (List Gl)
  | [], _, _ => []
  | gs :: r, a, b => (gs.drop a).take (b - a) :: parts r (a - gs.length) (b - gs.length)
def bx (p : List Gl) : Option Box := if p = [] then none else some (boxOf p)
theorem parts_len : ∀ (gss : List (List Gl)) (a b : Nat), (parts gss a b).length = gss.length
  | [], _, _ => rfl
  | gs :: r, a, b => by rw [parts, List.length_cons, List.length_cons, parts_len r]
theorem cut_append {α : Type} (x y : List α) (a b : Nat) : ((x ++ y).drop a).take (b - a) = (x.drop a).take (b - a) ++ (y.drop (a - x.length)).take ((b - x.length) - (a - x.length)) := by
  rw [List.drop_append, List.take_append, List.length_drop]
  congr 2
  omega
theorem parts_flat : ∀ (gss : List (List Gl)) (a b : Nat), (gss.flatten.drop a).take (b - a) = (parts gss a b).flatten
  | [], a, b => by simp [parts]
  | gs :: r, a, b => by rw [List.flatten_cons, cut_append, parts_flat r, parts, List.flatten_cons]
theorem parts_none : ∀ (gss : List (List Gl)) (a b : Nat), b ≤ a → (parts gss a b).filterMap bx = []
  | [], _, _, _ => rfl
  | gs :: r, a, b, h => by
    have e : b - a = 0 := by omega
    rw [parts, e, List.take_zero, List.filterMap_cons_none (by rfl)]
    exact parts_none r _ _ (by omega)
theorem row_fold (f l : Int) : ∀ (gss : List (List Gl)) (found : List Box) (base : Int), (gss.foldl (rbStep f l) (found, base)).1 = found ++ (parts gss (f - base).toNat (l + 1 - base).toNat).filterMap bx
  | [], found, base => by simp [parts]
  | gs :: r, found, base => by
    rw [List.foldl_cons]
    have e1 : (max (f - base) 0).toNat = (f - base).toNat := by omega
    have e2 : (max (l + 1 - base) 0).toNat = (l + 1 - base).toNat := by omega
    have e3 : (f - (base + (gs.length : Int))).toNat = (f - base).toNat - gs.length := by omega
    have e4 : (l + 1 - (base + (gs.length : Int))).toNat = (l + 1 - base).toNat - gs.length := by omega
    have e : rbStep f l (found, base) gs = (if (gs.drop (f - base).toNat).take ((l + 1 - base).toNat - (f - base).toNat) = [] then found else found ++ [boxOf ((gs.drop (f - base).toNat).take ((l + 1 - base).toNat - (f - base).toNat))], base + (gs.length : Int)) := by
      unfold rbStep
      dsimp only
      rw [e1, e2]
    rw [e, row_fold f l r, e3, e4, parts]
    by_cases h : (gs.drop (f - base).toNat).take ((l + 1 - base).toNat - (f - base).toNat) = []
    · rw [if_pos h, List.filterMap_cons_none (by unfold bx; rw [if_pos h])]
    · rw [if_neg h, List.filterMap_cons_some (by unfold bx; rw [if_neg h]), List.append_assoc]
      rfl
theorem row_boxes_is (gss : List (List Gl)) (f l : Int) : rowBoxes gss f l = (parts gss f.toNat (l + 1).toNat).filterMap bx := by
  unfold rowBoxes
  rw [row_fold, List.nil_append, Int.sub_zero, Int.sub_zero]
def tagFrom : Nat → List (List Gl) → List (List (Nat × Gl))
  | _, [] => []
  | k, gs :: r => (gs.map fun g => (k, g)) :: tagFrom (k + 1) r
theorem tagged_from : ∀ (k : Nat) (gss : List (List Gl)), (gss.mapIdx fun i gs => gs.map fun g => (k + i, g)) = tagFrom k gss
  | _, [] => rfl
  | k, gs :: r => by
    rw [List.mapIdx_cons, tagFrom, ← tagged_from (k + 1) r]
    congr 1
    congr 1
    funext i gs
    rw [Nat.add_assoc, Nat.add_comm 1 i]
theorem tagged_is (gss : List (List Gl)) : tagged gss = tagFrom 0 gss := by
  rw [← tagged_from]
  unfold tagged
  simp only [Nat.zero_add]
theorem tag_snd : ∀ (k : Nat) (gss : List (List Gl)), (tagFrom k gss).flatten.map (·.2) = gss.flatten
  | _, [] => rfl
  | k, gs :: r => by
    rw [tagFrom, List.flatten_cons, List.map_append, tag_snd (k + 1) r, List.flatten_cons, List.map_map]
    congr 1
    exact List.map_id' gs
theorem tag_ge : ∀ (k : Nat) (gss : List (List Gl)) (q : Nat × Gl), q ∈ (tagFrom k gss).flatten → k ≤ q.1
  | _, [], _, h => by cases h
  | k, gs :: r, q, h => by
    rw [tagFrom, List.flatten_cons] at h
    rcases List.mem_append.mp h with h | h
    · obtain ⟨g, _, rfl⟩ := List.mem_map.mp h
      exact Nat.le_refl _
    · exact Nat.le_of_succ_le (tag_ge (k + 1) r q h)
theorem tag_filter : ∀ (k : Nat) (gss : List (List Gl)) (a b i : Nat) (p : List Gl), (parts gss a b)[i]? = some p →
    ((((tagFrom k gss).flatten.drop a).take (b - a)).filter fun q => q.1 == k + i).map (·.2) = p
  | _, [], _, _, _, _, h => by cases h
  | k, gs :: r, a, b, i, p, h => by
    rw [tagFrom, List.flatten_cons, cut_append, List.filter_append, List.map_append, List.length_map, ← List.map_drop, ← List.map_take]
    rw [parts] at h
    cases i with
    | zero =>
      rw [List.getElem?_cons_zero] at h
      have h' := Option.some.inj h
      have e1 : ((((gs.drop a).take (b - a)).map fun g => (k, g)).filter fun q => q.1 == k + 0) = ((gs.drop a).take (b - a)).map fun g => (k, g) :=
        List.filter_eq_self.mpr fun q hq => by
          obtain ⟨g, _, rfl⟩ := List.mem_map.mp hq
          exact beq_self_eq_true k
      have e2 : ((((tagFrom (k + 1) r).flatten.drop (a - gs.length)).take ((b - gs.length) - (a - gs.length))).filter fun q => q.1 == k + 0) = [] :=
        List.filter_eq_nil_iff.mpr fun q hq => by
          have h1 := tag_ge (k + 1) r q (List.mem_of_mem_drop (List.mem_of_mem_take hq))
          intro h2
          have h3 : q.1 = k := by simpa using h2
          omega
      rw [e1, e2, List.map_nil, List.append_nil, List.map_map, ← h']
      exact List.map_id' _
    | succ i =>
      rw [List.getElem?_cons_succ] at h
      have e1 : ((((gs.drop a).take (b - a)).map fun g => (k, g)).filter fun q => q.1 == k + (i + 1)) = [] :=
        List.filter_eq_nil_iff.mpr fun q hq => by
          obtain ⟨g, _, rfl⟩ := List.mem_map.mp hq
          intro h2
          have h3 : k = k + (i + 1) := by simpa using h2
          omega
      rw [e1, List.map_nil, List.nil_append]
      have e2 : k + (i + 1) = (k + 1) + i := by omega
      rw [e2]
      exact tag_filter (k + 1) r _ _ i p h
theorem lmin_parts (K : List Gl → List Int) (hK : ∀ (ps : List (List Gl)) (a : Int), a ∈ K ps.flatten ↔ ∃ p ∈ ps, a ∈ K p) (h0 : K [] = []) (hn : ∀ p, p ≠ [] → K p ≠ []) (ps : List (List Gl)) (hne : ps.flatten ≠ []) :
    lmin (ps.filterMap fun p => if p = [] then none else some (lmin (K p))) = lmin (K ps.flatten) := by
  obtain ⟨h1, h2⟩ := lmin_is (hn _ hne)
  refine lmin_of ?_ fun a ha => ?_
  · obtain ⟨p, hp, hm⟩ := (hK ps _).mp h1
    have hp0 : p ≠ [] := by rintro rfl; rw [h0] at hm; cases hm
    obtain ⟨h3, h4⟩ := lmin_is (hn _ hp0)
    have e : lmin (K ps.flatten) = lmin (K p) := Int.le_antisymm (h2 _ ((hK ps _).mpr ⟨p, hp, h3⟩)) (h4 _ hm)
    exact List.mem_filterMap.mpr ⟨p, hp, by rw [if_neg hp0, e]⟩
  · obtain ⟨p, hp, he⟩ := List.mem_filterMap.mp ha
    by_cases hp0 : p = []
    · rw [if_pos hp0] at he; cases he
    · rw [if_neg hp0] at he
      rw [← Option.some.inj he]
      exact h2 _ ((hK ps _).mpr ⟨p, hp, (lmin_is (hn _ hp0)).1⟩)
theorem lmax_parts (K : List Gl → List Int) (hK : ∀ (ps : List (List Gl)) (a : Int), a ∈ K ps.flatten ↔ ∃ p ∈ ps, a ∈ K p) (h0 : K [] = []) (hn : ∀ p, p ≠ [] → K p ≠ []) (ps : List (List Gl)) (hne : ps.flatten ≠ []) :
    lmax (ps.filterMap fun p => if p = [] then none else some (lmax (K p))) = lmax (K ps.flatten) := by
  obtain ⟨h1, h2⟩ := lmax_is (hn _ hne)
  refine lmax_of ?_ fun a ha => ?_
  · obtain ⟨p, hp, hm⟩ := (hK ps _).mp h1
    have hp0 : p ≠ [] := by rintro rfl; rw [h0] at hm; cases hm
    obtain ⟨h3, h4⟩ := lmax_is (hn _ hp0)
    have e : lmax (K ps.flatten) = lmax (K p) := Int.le_antisymm (h4 _ hm) (h2 _ ((hK ps _).mpr ⟨p, hp, h3⟩))
    exact List.mem_filterMap.mpr ⟨p, hp, by rw [if_neg hp0, e]⟩
  · obtain ⟨p, hp, he⟩ := List.mem_filterMap.mp ha
    by_cases hp0 : p = []
    · rw [if_pos hp0] at he; cases he
    · rw [if_neg hp0] at he
      rw [← Option.some.inj he]
      exact h2 _ ((hK ps _).mpr ⟨p, hp, (lmax_is (hn _ hp0)).1⟩)
/-- the two ends of each glyph on one axis -/
def ends (a b : Gl → Int) (gs : List Gl) : List Int := gs.map a ++ gs.map fun g => a g + b g
theorem ends_flat (a b : Gl → Int) (ps : List (List Gl)) (x : Int) : x ∈ ends a b ps.flatten ↔ ∃ p ∈ ps, x ∈ ends a b p := by
  unfold ends
  constructor
  · intro h
    rcases List.mem_append.mp h with h | h
    · obtain ⟨g, hg, e⟩ := List.mem_map.mp h
      obtain ⟨p, hp, hm⟩ := List.mem_flatten.mp hg
      exact ⟨p, hp, List.mem_append.mpr (.inl (List.mem_map.mpr ⟨g, hm, e⟩))⟩
    · obtain ⟨g, hg, e⟩ := List.mem_map.mp h
      obtain ⟨p, hp, hm⟩ := List.mem_flatten.mp hg
      exact ⟨p, hp, List.mem_append.mpr (.inr (List.mem_map.mpr ⟨g, hm, e⟩))⟩
  · rintro ⟨p, hp, h⟩
    rcases List.mem_append.mp h with h | h
    · obtain ⟨g, hg, e⟩ := List.mem_map.mp h
      exact List.mem_append.mpr (.inl (List.mem_map.mpr ⟨g, List.mem_flatten.mpr ⟨p, hp, hg⟩, e⟩))
    · obtain ⟨g, hg, e⟩ := List.mem_map.mp h
      exact List.mem_append.mpr (.inr (List.mem_map.mpr ⟨g, List.mem_flatten.mpr ⟨p, hp, hg⟩, e⟩))
theorem ends_ne (a b : Gl → Int) (p : List Gl) (h : p ≠ []) : ends a b p ≠ [] := by
  cases p with
  | nil => exact absurd rfl h
  | cons g r => unfold ends; simp
theorem side_map (k : Int) (f : List Gl → Int) (hf : ∀ p, side k (boxOf p) = f p) (ps : List (List Gl)) : (ps.filterMap bx).map (side k) = ps.filterMap fun p => if p = [] then none else some (f p) := by
  rw [List.map_filterMap]
  congr 1
  funext p
  unfold bx
  split
  · rfl
  · rw [Option.map_some, hf]
theorem box_around_parts (ps : List (List Gl)) (hne : ps.flatten ≠ []) : boxAround (ps.filterMap bx) = boxOf ps.flatten := by
  unfold boxAround
  rw [side_map 0 (fun p => lmin (ends Gl.x Gl.w p)) (fun p => rfl), side_map 1 (fun p => lmin (ends Gl.y Gl.h p)) (fun p => rfl), side_map 2 (fun p => lmax (ends Gl.x Gl.w p)) (fun p => rfl), side_map 3 (fun p => lmax (ends Gl.y Gl.h p)) (fun p => rfl)]
  rw [lmin_parts _ (ends_flat _ _) rfl (ends_ne _ _) ps hne, lmin_parts _ (ends_flat _ _) rfl (ends_ne _ _) ps hne, lmax_parts _ (ends_flat _ _) rfl (ends_ne _ _) ps hne, lmax_parts _ (ends_flat _ _) rfl (ends_ne _ _) ps hne]
  rfl
/-! part H2 -/
theorem paired_get' {α β : Type} {F : α → β → Prop} : ∀ {l₁ : List α} {l₂ : List β} {i : Nat} {b : β}, Paired F l₁ l₂ → l₂[i]? = some b → ∃ a, l₁[i]? = some a ∧ F a b
  | _, _, _, _, .nil, h => by cases h
  | _, _, 0, _, .cons (a := a) q _, h => by
    rw [List.getElem?_cons_zero] at h
    cases h
    exact ⟨a, List.getElem?_cons_zero, q⟩
  | _, _, i + 1, _, .cons _ t, h => by
    rw [List.getElem?_cons_succ] at h
    obtain ⟨a, e, q⟩ := paired_get' t h
    exact ⟨a, by rw [List.getElem?_cons_succ]; exact e, q⟩
theorem SrcEnd.mk' {K : (Str → Option Value) → Prop} {h₀ h' : Heap} {L a : Addr} {m : Str → Option Value} {C D I : Addr} {oD oI oC' : Obj} {mC' : Str → Option Value} {nw nw₁ : Led} {Src : List Value → Prop} {s₁ : Shared} {tk n : Nat} {vs : List Value} (F : Fr h₀ L h' m) (N : News h₀ L h' ((C, oC') :: (D, oD) :: (I, oI) :: nw₁)) (n' : NsO oC' mC') (hm : (a, listOf vs.toArray n) ∈ nw) (hs : Src vs) (hk : K mC') :
    SrcEnd K h₀ L m C D I oD oI nw nw₁ Src s₁ (.ref a) { s₁ with heap := h', toks := tk } := ⟨h', tk, a, vs, n, oC', mC', rfl, rfl, F, N, n', hm, hs, hk⟩
theorem PEndK.call {K : (Str → Option Value) → Prop} {h₀ h' : Heap} {L : Addr} {m : Str → Option Value} {C D I : Addr} {oD oI oC' : Obj} {mC' : Str → Option Value} {nw₁ : Led} {Rl : Led → Value → Prop} {s₁ : Shared} {y : Value} {tk : Nat} {tl : Led} (F : Fr h₀ L h' m) (N : News h₀ L h' (tl ++ (C, oC') :: (D, oD) :: (I, oI) :: nw₁)) (n : NsO oC' mC')
    (O : ∀ q ∈ tl, ∀ r ∈ ((C, oC') :: (D, oD) :: (I, oI) :: nw₁), q.1 ≠ r.1) (j : Rl tl y) (k : K mC') :
    PEndK K h₀ L m C D I oD oI nw₁ Rl s₁ y { s₁ with heap := h', toks := tk } := ⟨h', tk, tl, oC', mC', rfl, F, news_perm N perm3, n, off_tl O, (fun q hq r hr => O q hq r (.tail _ (.tail _ (.tail _ hr)))), j, k⟩
theorem pair_end {K : (Str → Option Value) → Prop} {h₀ h' : Heap} {L T : Addr} {m : Str → Option Value} {C D I : Addr} {oD oI oC' : Obj} {mC' : Str → Option Value} {nw₁ : Led} {s₁ : Shared} {tk n i : Nat} {t : Tok} {v : Value} {g : Gl} {has : Addr → Obj → Prop} (F : Fr h₀ L h' m) (N : News h₀ L h' ((T, tupOf #[.int i t, v] n) :: (C, oC') :: (D, oD) :: (I, oI) :: nw₁)) (n' : NsO oC' mC')
    (l : C < T ∧ D < T ∧ I < T ∧ AllLt T nw₁) (q : QuadBy has v g) (k : K mC') : PEndK K h₀ L m C D I oD oI nw₁ (fun tl y => PairBy (HU has tl) y (i, g)) s₁ (.ref T) { s₁ with heap := h', toks := tk } := by
  refine PEndK.call (tl := [(T, tupOf #[.int i t, v] n)]) F N n' (fun q hq r hr => ?_) ⟨T, n, t, v, rfl, .inr (.head _), q.mono fun _ _ h => .inl h⟩ k
  rw [List.mem_singleton.mp hq]
  rcases List.mem_cons.mp hr with rfl | hr
  · exact Nat.ne_of_gt l.1
  rcases List.mem_cons.mp hr with rfl | hr
  · exact Nat.ne_of_gt l.2.1
  rcases List.mem_cons.mp hr with rfl | hr
  · exact Nat.ne_of_gt l.2.2.1
  · exact Nat.ne_of_gt (allLt_mem l.2.2.2 r hr)
/-! part H3 -/
theorem order_base {h₀ h : Heap} {L D Rw Ta ck : Addr} {oO oR oT oc : Obj} {tl3 tl2 base : Led} (N : News h₀ L h ((D, oO) :: (tl3 ++ (Rw, oR) :: (tl2 ++ (Ta, oT) :: (ck, oc) :: base))))
    (ne : ∀ q ∈ tl3 ++ (Rw, oR) :: (tl2 ++ (Ta, oT) :: (ck, oc) :: base), q.1 ≠ D) (oo : ∀ q ∈ tl3, ∀ r ∈ (Rw, oR) :: (tl2 ++ (Ta, oT) :: (ck, oc) :: base), q.1 ≠ r.1)
    (htl : ∀ q ∈ tl2, q.1 ≠ Rw ∧ ∀ r ∈ (Ta, oT) :: (ck, oc) :: base, q.1 ≠ r.1) (hb : ∀ q ∈ (Ta, oT) :: (ck, oc) :: base, q.1 ≠ Rw) (b4 : ∀ q ∈ base, q.1 ≠ Ta ∧ q.1 ≠ ck) :
    ∃ R, News h₀ L h ((Ta, oT) :: (ck, oc) :: R) ∧ (∀ q ∈ R, q.1 ≠ Ta ∧ q.1 ≠ ck) ∧ (∀ q ∈ base, q ∈ R) ∧ (∀ q ∈ tl2, q ∈ R) ∧ (∀ q ∈ tl3, q ∈ R) ∧ (D, oO) ∈ R ∧ (Rw, oR) ∈ R := by
  refine ⟨(D, oO) :: (Rw, oR) :: (tl3 ++ (tl2 ++ base)), news_perm N fun q hq => ?_, fun q hq => ?_, fun q hq => .tail _ (.tail _ (mem_appR (mem_appR hq))), fun q hq => .tail _ (.tail _ (mem_appR (mem_appL hq))), fun q hq => .tail _ (.tail _ (mem_appL hq)), .head _, .tail _ (.head _)⟩
  · simp only [List.mem_cons, List.mem_append, List.cons_append] at hq ⊢
    simp only [or_assoc, or_comm, or_left_comm] at hq ⊢
    exact hq
  · have mT : (Ta, oT) ∈ (Ta, oT) :: (ck, oc) :: base := .head _
    have mc : (ck, oc) ∈ (Ta, oT) :: (ck, oc) :: base := .tail _ (.head _)
    rcases List.mem_cons.mp hq with rfl | hq
    · exact ⟨Ne.symm (ne _ (mem_appR (.tail _ (mem_appR mT)))), Ne.symm (ne _ (mem_appR (.tail _ (mem_appR mc))))⟩
    rcases List.mem_cons.mp hq with rfl | hq
    · exact ⟨Ne.symm (hb _ mT), Ne.symm (hb _ mc)⟩
    rcases List.mem_append.mp hq with hq | hq
    · exact ⟨oo q hq _ (.tail _ (mem_appR mT)), oo q hq _ (.tail _ (mem_appR mc))⟩
    rcases List.mem_append.mp hq with hq | hq
    · exact ⟨(htl q hq).2 _ mT, (htl q hq).2 _ mc⟩
    · exact b4 q hq
/-! part H4 -/
/-! the told boxes as data: what is read off the heap, and the two comparisons -/
def toldD (t : Int) : PyData := .tuple [.int (dtop t), .int (dpl t)]
def boxD (b : Box) : PyData := .tuple [toldD b.l, toldD b.b, toldD b.r, toldD b.t]
theorem reads_told {h : Heap} {has : Addr → Obj → Prop} {v : Value} {t : Int} (k : ∀ a o, has a o → HH h a o) (q : ToldBy has v t) : Reads h v (toldD t) [] := by
  obtain ⟨a, n, x1, x2, rfl, ha⟩ := q
  exact reads_tuple_at (k _ _ ha) rfl rfl (readsAll_cons_val (.int _ _) (readsAll_cons_val (.int _ _) .nil))
theorem reads_box {h : Heap} {has : Addr → Obj → Prop} {v : Value} {b : Box} (k : ∀ a o, has a o → HH h a o) (q : BToldBy has v b) : Reads h v (boxD b) [] := by
  obtain ⟨a, n, v1, v2, v3, v4, rfl, ha, q1, q2, q3, q4⟩ := q
  exact reads_tuple_at (k _ _ ha) rfl rfl (readsAll_cons_val (reads_told k q1) (readsAll_cons_val (reads_told k q2) (readsAll_cons_val (reads_told k q3) (readsAll_cons_val (reads_told k q4) .nil))))
theorem reads_boxes {h : Heap} {has : Addr → Obj → Prop} (k : ∀ a o, has a o → HH h a o) : ∀ {vs : List Value} {bs : List Box}, Paired (BToldBy has) vs bs → ReadsAll h vs (bs.map boxD) []
  | _, _, .nil => .nil
  | _, _, .cons q t => readsAll_cons_val (reads_box k q) (reads_boxes k t)
theorem toldD_lay (t : Int) : (toldD t).canLay0 = true := rfl
theorem boxD_lay (b : Box) : (boxD b).canLay0 = true := rfl
theorem boxes_lay : ∀ bs : List Box, PyData.canLayAll0 (bs.map boxD) = true
  | [] => rfl
  | b :: r => by rw [List.map_cons, PyData.canLayAll0, boxD_lay, boxes_lay r]; rfl
theorem boxD_depth (b : Box) : (boxD b).depth ≤ 10 := by
  unfold boxD toldD
  simp only [PyData.depth, PyData.depthAll]
  omega
theorem boxes_depth : ∀ bs : List Box, PyData.depthAll (bs.map boxD) ≤ 10
  | [] => by simp only [List.map_nil, PyData.depthAll]; omega
  | b :: r => by
    have h1 := boxD_depth b
    have h2 := boxes_depth r
    rw [List.map_cons, PyData.depthAll]
    omega
theorem boxD_shaped (b : Box) : SeqAt.shaped (boxD b) = true := Bool.and_eq_true_iff.mpr ⟨boxD_lay b, decide_eq_true (Nat.le_trans (boxD_depth b) (by decide))⟩
theorem boxes_shaped (bs : List Box) : SeqAt.shaped (.list (bs.map boxD)) = true := Bool.and_eq_true_iff.mpr ⟨boxes_lay bs, decide_eq_true (by
  have := boxes_depth bs
  simp only [PyData.depth]
  omega)⟩
section
variable {prog : Program} {w : World} {A : Around} {E : Value → Shared → Prop} {s : Shared} {Q : Value → Shared → Prop}
theorem eq_box {has has' : Addr → Obj → Prop} {v u : Value} {b : Box} (k : ∀ a o, has a o → HH s.heap a o) (k' : ∀ a o, has' a o → HH s.heap a o) (q : BToldBy has v b) (q' : BToldBy has' u b) (hu : A.units + 64 < cLine) (h : Q (.bool true) s) :
    wpAny (model prog w) A (compareOp .Eq v u) Q E s :=
  eq_dataH (reads_box k q) (reads_box k' q') (boxD_shaped b) (boxD_shaped b) hu (by rw [SeqAt.eqv_refl _ (boxD_lay b)]; exact h)
theorem ne_boxes {has has' : Addr → Obj → Prop} {v u : Value} {vs us : List Value} {bs : List Box} (k : ∀ a o, has a o → HH s.heap a o) (k' : ∀ a o, has' a o → HH s.heap a o) (hv : ListBy (HH s.heap) v vs) (hu' : ListBy (HH s.heap) u us)
    (q : Paired (BToldBy has) vs bs) (q' : Paired (BToldBy has') us bs) (hu : A.units + 64 < cLine) (h : Q (.bool false) s) :
    wpAny (model prog w) A (compareOp .NotEq v u) Q E s := by
  obtain ⟨a, n, rfl, ha⟩ := hv
  obtain ⟨b, n', rfl, hb⟩ := hu'
  exact ne_dataH (reads_list_at ha rfl rfl (reads_boxes k q)) (reads_list_at hb rfl rfl (reads_boxes k' q')) (boxes_shaped bs) (boxes_shaped bs) hu (by rw [SeqAt.eqv_refl _ (SeqAt.canLay_of_shaped (boxes_shaped bs))]; exact h)
end
/-! part H5 -/
/-! the walked defs as they are used in the law's own frame -/
theorem hu_ml {R tl nw : Led} (k : ∀ q ∈ R, q ∈ nw) : ∀ a o, HU (ML R) tl a o → ML (tl ++ nw) a o := fun _ _ h => h.elim (fun m => mem_appR (k _ m)) fun m => mem_appL m
section
variable {p : Program} {loose : List Str} {w : World} {mean : ExcName → Option Value} {mg mb : Str → Option Value} {A : Around} {s : Shared} {Q E : Value → Shared → Prop} {h₀ : Heap} {L : Addr} {m : Str → Option Value} {nw R : Led}
theorem row_boxes_use (hA : Room 10 A) {v : Value} {rvs : List Value} {gss : List (List Gl)} {first last : Int} {t1 t2 : Tok}
    (F : Fr h₀ L s.heap m) (X : (hd.heap_39 w.params).In h₀) (T : Top p loose mean mg mb h₀) (N : News h₀ L s.heap nw) (hR : ∀ q ∈ R, q ∈ nw) (hl : ListBy (ML R) v rvs) (hp : Paired (RowBy w.params (ML R)) rvs gss) (hlen : gss.length ≤ 100) (hrow : ∀ gs ∈ gss, gs.length ≤ 100) (hf : 0 ≤ first ∧ first ≤ 100000) (hla : -1 ≤ last ∧ last ≤ 100000)
    (ret : ∀ h' tk tl r bvs n, Fr h₀ L h' m → News h₀ L h' ((r, listOf bvs.toArray n) :: (tl ++ nw)) → (∀ q ∈ (r, listOf bvs.toArray n) :: tl, ∀ z ∈ nw, q.1 ≠ z.1) → (∀ q ∈ tl, q.1 ≠ r) → Paired (BoxBy w.params (HU (ML R) tl)) bvs (rowBoxes gss first last) → Q (.ref r) { s with heap := h', toks := tk }) :
    wpAny (model PySem.Challenge.pw_og0152_01 w) A (call (.ref 211) [v, .int first t1, .int last t2]) Q E s := by
  refine row_boxes_spec hA (frag_keeps X F.keep) (top_keeps T F.keep) (hl.mono (ml_at N hR)) (ml_at N hR) hp hlen hrow hf hla fun h' tk tl r bvs n e nn hne hb => ?_
  obtain ⟨F', N'⟩ := news_more F N e nn
  exact ret h' tk tl r bvs n F' N' (new_off N nn) hne hb
theorem law_told_use (hA : Room 8 A) {v : Value} {vs : List Value} {gs : List Gl}
    (F : Fr h₀ L s.heap m) (X : (hd.heap_39 w.params).In h₀) (T : Top p loose mean mg mb h₀) (N : News h₀ L s.heap nw) (hR : ∀ q ∈ R, q ∈ nw) (hl : ListBy (ML nw) v vs) (hp : Paired (QuadBy (ML R)) vs gs) (hne : gs ≠ []) (hlen : vs.length ≤ 500)
    (ret : ∀ h' tk tl r, Fr h₀ L h' m → News h₀ L h' (tl ++ nw) → (∀ q ∈ tl, ∀ z ∈ nw, q.1 ≠ z.1) → BToldBy (ML tl) r (boxOf gs) → Q r { s with heap := h', toks := tk }) :
    wpAny (model PySem.Challenge.pw_og0152_01 w) A (call (.ref 258) [v]) Q E s := by
  refine law_told_spec hA (frag_keeps X F.keep) (top_keeps T F.keep) (hl.mono (ml_at N fun _ h => h)) (ml_at N hR) hp hne hlen fun h' tk tl r e nn hb => ?_
  obtain ⟨F', N'⟩ := news_more F N e nn
  exact ret h' tk tl r F' N' (new_off N nn) hb
theorem box_told_use (hA : Room 4 A) {v : Value} {b : Box} {has : Addr → Obj → Prop}
    (F : Fr h₀ L s.heap m) (X : (hd.heap_39 w.params).In h₀) (T : Top p loose mean mg mb h₀) (N : News h₀ L s.heap nw) (hhas : ∀ a o, has a o → HH s.heap a o) (hb : BoxBy w.params has v b)
    (ret : ∀ h' tk tl r, Fr h₀ L h' m → News h₀ L h' (tl ++ nw) → (∀ q ∈ tl, ∀ z ∈ nw, q.1 ≠ z.1) → BToldBy (ML tl) r b → Q r { s with heap := h', toks := tk }) :
    wpAny (model PySem.Challenge.pw_og0152_01 w) A (call (.ref 199) [v]) Q E s := by
  refine box_told_spec hA (frag_keeps X F.keep) (top_keeps T F.keep) (hb.mono hhas) fun h' tk tl r e nn hb => ?_
  obtain ⟨F', N'⟩ := news_more F N e nn
  exact ret h' tk tl r F' N' (new_off N nn) hb
theorem boxes_around_use (hA : Room 8 A) {v : Value} {vs : List Value} {bs : List Box}
    (F : Fr h₀ L s.heap m) (X : (hd.heap_39 w.params).In h₀) (T : Top p loose mean mg mb h₀) (N : News h₀ L s.heap nw) (hR : ∀ q ∈ R, q ∈ nw) (hl : ListBy (ML R) v vs) (hp : Paired (BoxBy w.params (ML R)) vs bs) (hne : bs ≠ []) (hlen : vs.length ≤ 500)
    (ret : ∀ h' tk tl r, Fr h₀ L h' m → News h₀ L h' (tl ++ nw) → (∀ q ∈ tl, ∀ z ∈ nw, q.1 ≠ z.1) → BoxBy w.params (ML (tl ++ nw)) r (boxAround bs) → Q r { s with heap := h', toks := tk }) :
    wpAny (model PySem.Challenge.pw_og0152_01 w) A (call (.ref 204) [v]) Q E s := by
  refine boxes_around_spec hA (frag_keeps X F.keep) (top_keeps T F.keep) (hl.mono (ml_at N hR)) (ml_at N hR) hp hne hlen fun h' tk tl r e nn hb => ?_
  obtain ⟨F', N'⟩ := news_more F N e nn
  exact ret h' tk tl r F' N' (new_off N nn) (hb.mono (hu_ml hR))
theorem box_of_use (hA : Room 8 A) {v : Value} {vs : List Value} {gs : List Gl}
    (F : Fr h₀ L s.heap m) (X : (hd.heap_39 w.params).In h₀) (T : Top p loose mean mg mb h₀) (N : News h₀ L s.heap nw) (hR : ∀ q ∈ R, q ∈ nw) (hl : ListBy (ML nw) v vs) (hp : Paired (GlyphBy w.params (ML R)) vs gs) (hne : gs ≠ []) (hlen : vs.length ≤ 500)
    (ret : ∀ h' tk tl r, Fr h₀ L h' m → News h₀ L h' (tl ++ nw) → (∀ q ∈ tl, ∀ z ∈ nw, q.1 ≠ z.1) → BoxBy w.params (ML (tl ++ nw)) r (boxOf gs) → Q r { s with heap := h', toks := tk }) :
    wpAny (model PySem.Challenge.pw_og0152_01 w) A (call (.ref 194) [v]) Q E s := by
  refine box_of_spec hA (frag_keeps X F.keep) (top_keeps T F.keep) (hl.mono (ml_at N fun _ h => h)) (ml_at N hR) hp hne hlen fun h' tk tl r e nn hb => ?_
  obtain ⟨F', N'⟩ := news_more F N e nn
  exact ret h' tk tl r F' N' (new_off N nn) (hb.mono (hu_ml hR))
end
local macro_rules | `(tactic| walk_at "call ref") => `(tactic| (k_here; (refine' stop_of (P := wpAny _ _ (call (Value.ref 211) _) _ _ _) ?_)))
local macro_rules | `(tactic| walk_at "call ref") => `(tactic| (k_here; (refine' stop_of (P := wpAny _ _ (call (Value.ref 258) _) _ _ _) ?_)))
local macro_rules | `(tactic| walk_at "call ref") => `(tactic| (k_here; (refine' stop_of (P := wpAny _ _ (call (Value.ref 199) _) _ _ _) ?_)))
local macro_rules | `(tactic| walk_at "call ref") => `(tactic| (k_here; (refine' stop_of (P := wpAny _ _ (call (Value.ref 204) _) _ _ _) ?_)))
local macro_rules | `(tactic| walk_at "call ref") => `(tactic| (k_here; (refine' stop_of (P := wpAny _ _ (call (Value.ref 194) _) _ _ _) ?_)))
/-! part H6 -/
/-! a block with one test; a cut of a value that is no name -/
section
variable {w : World} {A : Around} {s : Shared}
theorem Paired.filter_snoc {α β : Type} {F : α → β → Prop} {ys : List α} {bs : List β} {p : β → Bool} {i : Nat} {y : α} {b : β} (hb : bs[i]? = some b) (hp : p b = true) (h : Paired F ys ((bs.take i).filter p)) (q : F y b) : Paired F (ys ++ [y]) ((bs.take (i + 1)).filter p) := by
  have e : (bs.take (i + 1)).filter p = (bs.take i).filter p ++ [b] := by
    rw [List.take_add_one, hb, List.filter_append]
    simp [hp]
  rw [e]
  exact Paired.snoc h q
theorem filter_skip {β : Type} {bs : List β} {p : β → Bool} {i : Nat} {b : β} (hb : bs[i]? = some b) (hp : p b = false) : (bs.take (i + 1)).filter p = (bs.take i).filter p := by
  rw [List.take_add_one, hb, List.filter_append]
  simp [hp]
theorem comp_filt {β : Type} (Rel : Value → β → Prop) (bs : List β) (p : β → Bool)
    {h₀ : Heap} {m : Str → Option Value} {nw : Led} {env : Env} {E : Value → Shared → Prop} {scope : Scope} {cl : List (Str × Addr)} {use : Option (Value → Sem Unit)} {Q : Value → Shared → Prop} {xv : Value} {src : List Addr} {n : Nat} {P : Nat → Value → Prop} {St : Addr → Nat → Heap → Prop}
    {elt target iter c : Expr} {pos : Pos}
    (hcell : ∀ y ∈ scope.names, y.2 ≠ .cell) (hkind : scope.kind = .function)
    (it : Iter w A s xv src n P St) (F : Fr h₀ env.locals s.heap m) (N : News h₀ env.locals s.heap nw)
    (hsrc : ∀ b ∈ src, (∃ o, h₀.get? b = some o) ∨ ∃ o, (b, o) ∈ nw)
    (hn : n = bs.length) (hlen : bs.length ≤ 1000000)
    (turn : ∀ C D I i u b oC mC oD oI s₁, Three h₀ env.locals C D I → P i u → bs[i]? = some b → Fr h₀ env.locals s₁.heap m → News h₀ env.locals s₁.heap ((C, oC) :: (D, oD) :: (I, oI) :: nw) → NsO oC mC → Off C D I nw →
      wpAny (model PySem.Challenge.pw_og0152_01 w) A (assign target (compEnvC scope cl C env) u) (fun _ s₂ => wpAny (model PySem.Challenge.pw_og0152_01 w) A (isTrue c (compEnvC scope cl C env) (eval c (compEnvC scope cl C env))) (fun ok s₃ => ok = p b ∧
        if ok = true then wpAny (model PySem.Challenge.pw_og0152_01 w) A (eval elt (compEnvC scope cl C env)) (SEnd h₀ env.locals m C D I oD oI nw (fun y => Rel y b) s₁) (fun _ _ => False) s₃ else SEnd h₀ env.locals m C D I oD oI nw (fun _ => True) s₁ .none s₃) (fun _ _ => False) s₂) (fun _ _ => False) s₁)
    (fin : ∀ C D I h' tk ys mC c, Three h₀ env.locals C D I → Fr h₀ env.locals h' m → News h₀ env.locals h' ((D, listOf ys.toArray c) :: nw) → h'.Ns C mC → Off C D I nw → Paired Rel ys (bs.filter p) → compPost (model PySem.Challenge.pw_og0152_01 w) A E use Q (.ref D) C (.ok .next) { s with heap := h', toks := tk }) :
    CompGo w A E env scope cl (.ListComp elt [⟨target, iter, [c], 0⟩] scope pos) use Q xv s := by
  refine comp_rule (fun i nw' ys => nw' = nw ∧ Paired Rel ys ((bs.take i).filter p)) hcell hkind it F N ?_ ⟨rfl, by rw [List.take_zero]; exact .nil⟩ ?_ ?_ ?_
  · intro b hb
    rcases hsrc b hb with h | ⟨o, h⟩
    · exact .inl h
    · exact .inr ⟨o, fun i nw' ys ⟨e, _⟩ => by rw [e]; exact h⟩
  · rintro i nw' ys ⟨_, h⟩
    have h1 := h.length
    have h2 := List.length_filter_le p (bs.take i)
    have h3 : (bs.take i).length ≤ bs.length := by rw [List.length_take]; omega
    omega
  · rintro C D I i u ys nw₁ oC mC oD oI s₁ TT hi hP ⟨rfl, hp⟩ F₁ N₁ nC off
    have hb : ∃ b, bs[i]? = some b := ⟨bs[i]'(by omega), by simp⟩
    obtain ⟨b, hb⟩ := hb
    refine wpAny_mono (turn C D I i u b oC mC oD oI s₁ TT hP hb F₁ N₁ nC off) (fun _ s₂ h₂ => tests_one (wpAny_mono h₂ (fun ok s₃ h₃ => ?_) fun _ _ f => f.elim)) fun _ _ f => f.elim
    obtain ⟨ho, h₃⟩ := h₃
    cases ok with
    | true =>
      simp only [if_true] at h₃ ⊢
      refine wpAny_mono h₃ (fun y s₄ h₄ => ?_) fun _ _ f => f.elim
      obtain ⟨h', tk, oC', mC', rfl, F', N', n', hR⟩ := h₄
      exact EltEnd.mk' F' N' n' off ⟨rfl, Paired.filter_snoc hb ho.symm hp hR⟩
    | false =>
      simp only [Bool.false_eq_true, if_false] at h₃ ⊢
      obtain ⟨h', tk, oC', mC', rfl, F', N', n', -⟩ := h₃
      exact EltEnd.mk' F' N' n' off ⟨rfl, by rw [filter_skip hb ho.symm]; exact hp⟩
  · rintro C D I h' tk nw' ys mC c TT F' N' n' off ⟨rfl, hp⟩
    rw [hn, List.take_length] at hp
    exact fin C D I h' tk ys mC c TT F' N' n' off hp
end
section
variable {prog : Program} {w : World} {A : Around} {E : Value → Shared → Prop} {s : Shared}
theorem sub_any {value slice : Expr} {o i : Value} {T id : String} {ops : List Value} {Q : Value → Shared → Prop} (hT : s.TypeIs o T) (hl : typeLookup (.type T) "__getitem__" = pure (some (.builtin id)))
    (hs : subscripted slice false o i = operate ops (getItem o i)) (h : wpAny (model prog w) A (getItem o i) Q E s) : wpAny (model prog w) A (subscriptTail value slice o i) Q E s := by
  have last : wpAny (model prog w) A (subscripted slice false o i) (fun r s₁ => wpAny (model prog w) A (letTemporaryGo value o r >>= fun _ => pure r) Q E s₁) E s := by
    rw [hs]
    refine wpAny_operating (wpAny_mono h (fun r s₁ q => ?_) fun _ _ f => f)
    exact wpAny_bind (wpAny_letTemporaryGo (wpAny_pure q))
  unfold subscriptTail
  refine wpAny_bind ?_
  rw [getitemInPython_of_ne hT.not_modules]
  refine wpAny_bind (wpAny_specialOf hT hl ?_)
  first
    | exact wpAny_pure (wpAny_bind last)
    | exact wpAny_bind (wpAny_pure (wpAny_bind last))
    | exact wpAny_bind last
theorem slice_any {h₀ : Heap} {L l : Addr} {m : Str → Option Value} {news : Led} {value slice : Expr} {vs : List Value} {x y : Int} {t u : Tok} {Q : Value → Shared → Prop} (F : Fr h₀ L s.heap m) (N : News h₀ L s.heap news) (hl : s.heap.IsList l vs.toArray) (hx : 0 ≤ x) (hy : 0 ≤ y) (hz : vs.length ≤ 1000000)
    (h : ∀ D h', Fr h₀ L h' m → News h₀ L h' ((D, listOf ((vs.drop x.toNat).take (y.toNat - x.toNat)).toArray 0) :: news) → (∀ p ∈ news, p.1 < D) → Q (.ref D) { s with heap := h' })
    (hs : subscripted slice false (.ref l) (.ref s.heap.objs.size) = operate [.ref s.heap.objs.size, .ref l] (getItem (.ref l) (.ref s.heap.objs.size))) :
    wpAny (model prog w) A (subscriptTail value slice (.ref l) (.ref s.heap.objs.size)) Q E { s with heap := s.heap.push { cls := .type "slice", data := .fields #[.int x t, .int y u, .none] } } := by
  refine sub_any (Heap.IsList.typeIs (s := { s with heap := s.heap.push { cls := .type "slice", data := .fields #[.int x t, .int y u, .none] } }) (hl.push _)) list_getitem_lookup hs ?_
  refine wpAny_getItem_list_slice (hl.push _) (Heap.IsSliceOf.new ..) (IsPart.int x t) (IsPart.int y u) .none (by simp) ?_ (by rw [List.size_toArray, sizeLine_eq]; omega)
  have e : slicePick vs.toArray (some x) (some y) none = ((vs.drop x.toNat).take (y.toNat - x.toNat)).toArray := by rw [← pick_nn vs hx hy, Array.toArray_toList]
  rw [e]
  have N1 := News.push (F.push { cls := .type "slice", data := .fields #[.int x t, .int y u, .none] }) (N.grown fun _ _ e => Heap.get?_push_of_some _ e) (listOf ((vs.drop x.toNat).take (y.toNat - x.toNat)).toArray 0)
  rw [Heap.size_push] at N1
  show Q (.ref (s.heap.push _).objs.size) _
  rw [Heap.size_push]
  exact h _ _ ((F.push _).push _) N1 fun q hq => Nat.lt_succ_of_lt (Heap.lt_size (N q hq).1)
end
theorem len_mem {prog : Program} {w : World} {A : Around} {E : Value → Shared → Prop} {s : Shared} {h₀ : Heap} {L l : Addr} {nw : Led} {vs : List Value} {n : Nat} {Q : Value → Shared → Prop} (N : News h₀ L s.heap nw) (hm : (l, listOf vs.toArray n) ∈ nw) (hz : vs.length ≤ 1000000) (h : Q (.int (vs.length : Int) (s.toks + 1)) { s with toks := s.toks + 1 + 1 }) :
    wpAny (model prog w) A (call (.builtin "len") [.ref l]) Q E s := len_listV (News.isList N hm) hz h
theorem slice_mem {prog : Program} {w : World} {A : Around} {E : Value → Shared → Prop} {s : Shared} {h₀ : Heap} {L l : Addr} {m : Str → Option Value} {news : Led} {value slice : Expr} {vs : List Value} {n : Nat} {x y : Int} {t u : Tok} {Q : Value → Shared → Prop} (F : Fr h₀ L s.heap m) (N : News h₀ L s.heap news) (hm : (l, listOf vs.toArray n) ∈ news) (hx : 0 ≤ x) (hy : 0 ≤ y) (hz : vs.length ≤ 1000000)
    (hs : subscripted slice false (.ref l) (.ref s.heap.objs.size) = operate [.ref s.heap.objs.size, .ref l] (getItem (.ref l) (.ref s.heap.objs.size)))
    (h : ∀ D h', Fr h₀ L h' m → News h₀ L h' ((D, listOf ((vs.drop x.toNat).take (y.toNat - x.toNat)).toArray 0) :: news) → (∀ p ∈ news, p.1 < D) → Q (.ref D) { s with heap := h' }) :
    wpAny (model prog w) A (subscriptTail value slice (.ref l) (.ref s.heap.objs.size)) Q E { s with heap := s.heap.push { cls := .type "slice", data := .fields #[.int x t, .int y u, .none] } } := slice_any F N (News.isList N hm) hx hy hz h hs
local macro_rules | `(tactic| walk_at "call builtin:len") => `(tactic| (k_here; (with_reducible show wpAny _ _ (call (Value.builtin _) [Value.ref _]) _ _ _); (refine' len_mem ?N ?hm ?hz ?_; (case N => k_asm); (case hm => k_mem); (case hz => omega); k_whole)))
local macro_rules | `(tactic| walk_at "subscriptTail") => `(tactic| (k_here; (with_reducible show wpAny _ _ (subscriptTail _ (PySem.Expr.Slice _ _ none _) (Value.ref _) (Value.ref _)) _ _ _); (refine' slice_mem ?F ?N ?hm ?hx ?hy ?hz ?hs ?_; (case F => k_asm); (case N => k_asm); (case hm => k_mem); (case hx => first | decide | omega); (case hy => first | decide | omega); (case hz => omega); (case hs => with_unfolding_all rfl)); intro D' h' F' N' l1; (try k_lt l1); (try k_sweep)))
local macro_rules | `(tactic| walk_at "subscriptTail Name Slice ref ref") => `(tactic| (k_here; (refine' slice_mem ?F ?N ?hm ?hx ?hy ?hz ?hs ?_; (case F => k_asm); (case N => k_asm); (case hm => k_mem); (case hx => first | decide | omega); (case hy => first | decide | omega); (case hz => omega); (case hs => with_unfolding_all rfl)); intro D' h' F' N' l1; (try k_lt l1); (try k_sweep)))
/-! part H7 -/
/-! the plain law: what the cut of the order holds -/
theorem cut_snd (gss : List (List Gl)) (a b : Nat) : (((tagged gss).flatten.drop a).take (b - a)).map (·.2) = (parts gss a b).flatten := by
  rw [tagged_is, List.map_take, List.map_drop, tag_snd, parts_flat]
theorem cut_filter {gss : List (List Gl)} {a b i : Nat} {p : List Gl} (h : (parts gss a b)[i]? = some p) : ((((tagged gss).flatten.drop a).take (b - a)).filter fun q => q.1 == i).map (·.2) = p := by
  have e := tag_filter 0 gss a b i p h
  rw [Nat.zero_add] at e
  rw [tagged_is]
  exact e
theorem cut_ne {gss : List (List Gl)} {a b : Nat} (h1 : a < b) (h2 : a < gss.flatten.length) : (parts gss a b).flatten ≠ [] := by
  rw [← parts_flat]
  intro e
  have h := congrArg List.length e
  rw [List.length_take, List.length_drop, List.length_nil] at h
  omega
theorem boxes_ne {ps : List (List Gl)} (h : ps.flatten ≠ []) : ps.filterMap bx ≠ [] := by
  intro e
  apply h
  rw [List.flatten_eq_nil_iff]
  intro p hp
  have h1 := List.filterMap_eq_nil_iff.mp e p hp
  unfold bx at h1
  by_cases h2 : p = []
  · exact h2
  · rw [if_neg h2] at h1; cases h1
theorem bx_take_none {ps : List (List Gl)} {i : Nat} {p : List Gl} (h : ps[i]? = some p) (e : p = []) : (ps.take (i + 1)).filterMap bx = (ps.take i).filterMap bx := by
  rw [List.take_add_one, h, List.filterMap_append]
  subst e
  simp [bx]
theorem bx_take_some {ps : List (List Gl)} {i : Nat} {p : List Gl} (h : ps[i]? = some p) (e : p ≠ []) : (ps.take (i + 1)).filterMap bx = (ps.take i).filterMap bx ++ [boxOf p] := by
  rw [List.take_add_one, h, List.filterMap_append]
  simp [bx, e]
theorem tagged_total (gss : List (List Gl)) : (tagged gss).flatten.length = gss.flatten.length := by
  have h := congrArg List.length (tag_snd 0 gss)
  rw [List.length_map] at h
  rw [tagged_is]
  exact h
theorem row_boxes_none (gss : List (List Gl)) (f : Int) : rowBoxes gss f (f - 1) = [] := by
  rw [row_boxes_is]
  exact parts_none _ _ _ (by omega)
theorem total_pos {gss : List (List Gl)} (h : 1 ≤ gss.length) (k : ∀ gs ∈ gss, 1 ≤ gs.length ∧ gs.length ≤ 4) : 1 ≤ gss.flatten.length := by
  cases gss with
  | nil => simp at h
  | cons g r =>
    have := (k g (.head _)).1
    rw [List.flatten_cons, List.length_append]
    omega
theorem Paired.of_map {α β γ : Type} {F : α → β → Prop} {f : γ → β} : ∀ {l : List α} {cs : List γ}, Paired (fun a c => F a (f c)) l cs → Paired F l (cs.map f)
  | _, _, .nil => .nil
  | _, _, .cons q t => .cons q (Paired.of_map t)
/-- what is new joins the rest, off the thing that changes -/
theorem rebase {h₀ h : Heap} {L : Addr} {a : Addr × Obj} {tl R : Led} (N : News h₀ L h (tl ++ a :: R)) (off : ∀ q ∈ tl, ∀ z ∈ a :: R, q.1 ≠ z.1) (sep : ∀ q ∈ R, q.1 ≠ a.1) :
    ∃ R', News h₀ L h (a :: R') ∧ (∀ q ∈ R', q.1 ≠ a.1) ∧ (∀ q ∈ R, q ∈ R') ∧ (∀ q ∈ tl, q ∈ R') := by
  refine ⟨tl ++ R, news_perm N fun q hq => ?_, fun q hq => ?_, fun q hq => mem_appR hq, fun q hq => mem_appL hq⟩
  · rcases List.mem_cons.mp hq with rfl | hq
    · exact mem_appR (.head _)
    rcases List.mem_append.mp hq with hq | hq
    · exact mem_appL hq
    · exact mem_appR (.tail _ hq)
  · rcases List.mem_append.mp hq with hq | hq
    · exact off q hq a (.head _)
    · exact sep q hq
theorem ml_up {tl R : Led} (k : ∀ q ∈ tl, q ∈ R) : ∀ a o, ML tl a o → ML R a o := fun _ _ h => k _ h
theorem nat_beq (a b : Nat) : (((a : Nat) : Int) == ((b : Nat) : Int)) = (a == b) := Bool.eq_iff_iff.mpr (by rw [beq_iff_eq, beq_iff_eq]; omega)
/-! part H8 -/
/-! the loop that draws up what is due -/
def DueJ (ck Dd : Addr) (m0 : Str → Option Value) (R : Led) (ps : List (List Gl)) (i : Nat) (m : Str → Option Value) (nw : Led) : Prop :=
  ∃ u ock v dvs nD tl, m = upd (Str.ofString "some") u m0 ∧ nw = (ck, ock) :: (Dd, listOf dvs.toArray nD) :: (tl ++ R) ∧ ock.data = .cell v ∧ (∀ q ∈ tl, q.1 ≠ ck ∧ q.1 ≠ Dd ∧ ∀ r ∈ R, q.1 ≠ r.1) ∧ Paired (BToldBy (ML tl)) dvs ((ps.take i).filterMap bx)
theorem DueJ.mem {ck Dd : Addr} {m0 m : Str → Option Value} {R nw : Led} {ps : List (List Gl)} {i : Nat} (h : DueJ ck Dd m0 R ps i m nw) : ∀ q ∈ R, q ∈ nw := by
  obtain ⟨u, ock, v, dvs, nD, tl, _, rfl, _⟩ := h
  exact fun q hq => .tail _ (.tail _ (mem_appR hq))
theorem due_skip {h₀ h' : Heap} {L ck Dd I : Addr} {oI ock : Obj} {m0 : Str → Option Value} {v : Option Value} {u : Option Value} {w' : Option Value} {dvs : List Value} {nD i tk : Nat} {tl R nw : Led} {ps : List (List Gl)} {p : List Gl} {s₁ : Shared}
    (F : Fr h₀ L h' (fun y => if y = Str.ofString "some" then w' else upd (Str.ofString "some") u m0 y)) (N : News h₀ L h' nw) (k : ∀ q ∈ (I, oI) :: (ck, ock) :: (Dd, listOf dvs.toArray nD) :: (tl ++ R), q ∈ nw)
    (hd : ∀ o, ∀ q ∈ (ck, o) :: (Dd, listOf dvs.toArray nD) :: (tl ++ R), q.1 ≠ I) (hc : ock.data = .cell v) (htl : ∀ q ∈ tl, q.1 ≠ ck ∧ q.1 ≠ Dd ∧ ∀ r ∈ R, q.1 ≠ r.1) (hq : Paired (BToldBy (ML tl)) dvs ((ps.take i).filterMap bx)) (hp : ps[i]? = some p) (he : p = []) :
    TurnEnd h₀ L I oI (DueJ ck Dd m0 R ps (i + 1)) s₁ .next { s₁ with heap := h', toks := tk } := by
  rw [upd_upd] at F
  exact TurnEnd.mk' F (news_perm N k) (hd ock) ⟨w', ock, v, dvs, nD, tl, rfl, rfl, hc, htl, by rw [bx_take_none hp he]; exact hq⟩
section
variable {w : World} {A : Around} {s : Shared} {Q E : Value → Shared → Prop}
theorem due_append {h₀ : Heap} {L ck Dd I : Addr} {oI ock : Obj} {m : Str → Option Value} {x : Value} {dvs : List Value} {nD : Nat} {tl t2 R nw nw1 : Led} (F : Fr h₀ L s.heap m) (N : News h₀ L s.heap nw) (k : ∀ q ∈ (I, oI) :: (ck, ock) :: (Dd, listOf dvs.toArray nD) :: (tl ++ R), q ∈ nw1) (k2 : ∀ q ∈ t2, q ∈ nw) (k3 : ∀ q ∈ nw1, q ∈ nw)
    (O : ∀ q ∈ t2, ∀ z ∈ nw1, q.1 ≠ z.1) (hd : ∀ o, ∀ q ∈ (ck, o) :: (Dd, listOf dvs.toArray nD) :: (tl ++ R), q.1 ≠ I) (htl : ∀ q ∈ tl, q.1 ≠ ck ∧ q.1 ≠ Dd ∧ ∀ r ∈ R, q.1 ≠ r.1) (hck : Dd ≠ ck) (hR : ∀ q ∈ R, q.1 ≠ ck ∧ q.1 ≠ Dd) (hz : dvs.length ≤ 1000000)
    (ret : ∀ h' n', Fr h₀ L h' m → News h₀ L h' ((I, oI) :: (ck, ock) :: (Dd, listOf (dvs ++ [x]).toArray n') :: ((t2 ++ tl) ++ R)) → Q .none { s with heap := h' }) :
    wpAny (model PySem.Challenge.pw_og0152_01 w) A (call (.builtin "list.append") [.ref Dd, x]) Q E s := by
  have a1 : (Dd, listOf dvs.toArray nD) ∈ (I, oI) :: (ck, ock) :: (Dd, listOf dvs.toArray nD) :: (tl ++ R) := .tail _ (.tail _ (.head _))
  refine append_top (n := nD) (others := (I, oI) :: (ck, ock) :: ((t2 ++ tl) ++ R)) F (news_perm N fun q hq => ?_) (fun q hq => ?_) hz fun h' n' F' N' => ret h' n' F' (news_perm N' fun q hq => ?_)
  · rcases List.mem_cons.mp hq with rfl | hq
    · exact k3 _ (k _ a1)
    rcases List.mem_cons.mp hq with rfl | hq
    · exact k3 _ (k _ (.head _))
    rcases List.mem_cons.mp hq with rfl | hq
    · exact k3 _ (k _ (.tail _ (.head _)))
    rcases List.mem_append.mp hq with hq | hq
    · rcases List.mem_append.mp hq with hq | hq
      · exact k2 _ hq
      · exact k3 _ (k _ (.tail _ (.tail _ (.tail _ (mem_appL hq)))))
    · exact k3 _ (k _ (.tail _ (.tail _ (.tail _ (mem_appR hq)))))
  · rcases List.mem_cons.mp hq with rfl | hq
    · exact Ne.symm (hd ock (Dd, listOf dvs.toArray nD) (.tail _ (.head _)))
    rcases List.mem_cons.mp hq with rfl | hq
    · exact Ne.symm hck
    rcases List.mem_append.mp hq with hq | hq
    · rcases List.mem_append.mp hq with hq | hq
      · exact O q hq _ (k _ a1)
      · exact (htl q hq).2.1
    · exact (hR q hq).2
  · rcases List.mem_cons.mp hq with rfl | hq
    · exact .tail _ (.head _)
    rcases List.mem_cons.mp hq with rfl | hq
    · exact .tail _ (.tail _ (.head _))
    rcases List.mem_cons.mp hq with rfl | hq
    · exact .head _
    · exact .tail _ (.tail _ (.tail _ hq))
end
theorem due_add {h₀ h' : Heap} {L ck Dd I : Addr} {oI ock : Obj} {m0 : Str → Option Value} {v u w' : Option Value} {x : Value} {dvs : List Value} {nD n' i tk : Nat} {tl t2 R nw1 : Led} {ps : List (List Gl)} {p : List Gl} {s₁ : Shared}
    (F : Fr h₀ L h' (fun y => if y = Str.ofString "some" then w' else upd (Str.ofString "some") u m0 y)) (N : News h₀ L h' ((I, oI) :: (ck, ock) :: (Dd, listOf (dvs ++ [x]).toArray n') :: ((t2 ++ tl) ++ R))) (k : ∀ q ∈ (I, oI) :: (ck, ock) :: (Dd, listOf dvs.toArray nD) :: (tl ++ R), q ∈ nw1)
    (O : ∀ q ∈ t2, ∀ z ∈ nw1, q.1 ≠ z.1) (hd : ∀ o, ∀ q ∈ (ck, o) :: (Dd, listOf dvs.toArray nD) :: (tl ++ R), q.1 ≠ I) (hc : ock.data = .cell v) (htl : ∀ q ∈ tl, q.1 ≠ ck ∧ q.1 ≠ Dd ∧ ∀ r ∈ R, q.1 ≠ r.1) (hq : Paired (BToldBy (ML tl)) dvs ((ps.take i).filterMap bx)) (hp : ps[i]? = some p) (he : p ≠ []) (hx : BToldBy (ML t2) x (boxOf p)) :
    TurnEnd h₀ L I oI (DueJ ck Dd m0 R ps (i + 1)) s₁ .next { s₁ with heap := h', toks := tk } := by
  rw [upd_upd] at F
  refine TurnEnd.mk' F N (fun q hq => ?_) ⟨w', ock, v, dvs ++ [x], n', t2 ++ tl, rfl, rfl, hc, fun q hq => ?_, ?_⟩
  · rcases List.mem_cons.mp hq with rfl | hq
    · exact hd ock _ (.head _)
    rcases List.mem_cons.mp hq with rfl | hq
    · exact (hd ock (Dd, listOf dvs.toArray nD) (.tail _ (.head _)) : Dd ≠ I)
    rcases List.mem_append.mp hq with hq | hq
    · rcases List.mem_append.mp hq with hq | hq
      · exact O q hq _ (k _ (.head _))
      · exact hd ock q (.tail _ (.tail _ (mem_appL hq)))
    · exact hd ock q (.tail _ (.tail _ (mem_appR hq)))
  · rcases List.mem_append.mp hq with hq | hq
    · exact ⟨O q hq _ (k _ (.tail _ (.head _))), O q hq _ (k _ (.tail _ (.tail _ (.head _)))), fun r hr => O q hq r (k _ (.tail _ (.tail _ (.tail _ (mem_appR hr)))))⟩
    · exact htl q hq
  · rw [bx_take_some hp he]
    exact Paired.snoc (Paired.mono' (fun _ _ h => h.mono fun _ _ h => mem_appR h) hq) (hx.mono fun _ _ h => mem_appL h)
/-- after the call of row_boxes: the tape is done with -/
theorem found_base {h₀ h : Heap} {L Ta ck fr : Addr} {oT oc of : Obj} {tl R : Led} (N : News h₀ L h ((fr, of) :: (tl ++ (Ta, oT) :: (ck, oc) :: R))) (O : ∀ q ∈ (fr, of) :: tl, ∀ z ∈ (Ta, oT) :: (ck, oc) :: R, q.1 ≠ z.1) (sep : ∀ q ∈ R, q.1 ≠ Ta ∧ q.1 ≠ ck) :
    ∃ R', News h₀ L h ((ck, oc) :: R') ∧ (∀ q ∈ R', q.1 ≠ ck) ∧ (∀ q ∈ R, q ∈ R') ∧ (∀ q ∈ tl, q ∈ R') ∧ (fr, of) ∈ R' := by
  obtain ⟨R', N', s', k1, k2⟩ := rebase (a := (ck, oc)) (tl := (fr, of) :: tl) (R := R) (news_perm N fun q hq => by
    rcases List.mem_cons.mp hq with rfl | hq
    · exact .head _
    rcases List.mem_append.mp hq with hq | hq
    · exact .tail _ (mem_appL hq)
    · exact .tail _ (mem_appR (.tail _ hq))) (fun q hq z hz => O q hq z (.tail _ hz)) fun q hq => (sep q hq).2
  exact ⟨R', N', s', k1, fun q hq => k2 q (.tail _ hq), k2 _ (.head _)⟩
theorem all_base {h₀ h : Heap} {L ck Dd : Addr} {oc od : Obj} {tl R : Led} (N : News h₀ L h ((ck, oc) :: (Dd, od) :: (tl ++ R))) : ∃ R3, News h₀ L h R3 ∧ (Dd, od) ∈ R3 ∧ (∀ q ∈ tl, q ∈ R3) ∧ ∀ q ∈ R, q ∈ R3 :=
  ⟨_, N, .tail _ (.head _), fun q hq => .tail _ (.tail _ (mem_appL hq)), fun q hq => .tail _ (.tail _ (mem_appR hq))⟩
theorem Room.eqs {n : Nat} {A : Around} (r : Room n A) : A.units + 64 < cLine := by
  have := r.units
  rw [cLine_is]
  omega
theorem every_base {h₀ h : Heap} {L a b c : Addr} {o1 o2 o3 : Obj} {tl R : Led} (N : News h₀ L h ((a, o1) :: (b, o2) :: (c, o3) :: (tl ++ R))) : ∃ R4, News h₀ L h R4 ∧ (a, o1) ∈ R4 ∧ (b, o2) ∈ R4 ∧ (∀ q ∈ tl, q ∈ R4) ∧ ∀ q ∈ R, q ∈ R4 :=
  ⟨_, N, .head _, .tail _ (.head _), fun q hq => .tail _ (.tail _ (.tail _ (mem_appL hq))), fun q hq => .tail _ (.tail _ (.tail _ (mem_appR hq)))⟩
theorem get_top {c d : Addr} {R : Led} (_ : c < d ∧ AllLt d R) : ∃ d', d' = d := ⟨d, rfl⟩
theorem get_top2 {e c d : Addr} {R : Led} (_ : e < d ∧ c < d ∧ AllLt d R) : ∃ d' e', d' = d ∧ e' = e := ⟨d, e, rfl, rfl⟩
local macro_rules | `(tactic| walk_at "compareOp Eq ref ref") => `(tactic| (k_here; (with_reducible show wpAny _ _ (compareOp CmpOp.Eq (Value.ref _) (Value.ref _)) _ _ _); (refine stop_of ?_)))
local macro_rules | `(tactic| walk_at "compareOp NotEq ref ref") => `(tactic| (k_here; (with_reducible show wpAny _ _ (compareOp CmpOp.NotEq (Value.ref _) (Value.ref _)) _ _ _); (refine stop_of ?_)))
/-- a piece of the walk is proved on the ground that what is left of it holds -/
structure Hold (P : Prop) : Prop where
  p : P
def cut0 : Σ' P : Prop, (Hold P → PySem.Challenge.rw_og0152_01.Holds) := ⟨_, fun hgoes => hd (by
  k_go0
  try k_fold
  rename World => w
  change wpAny (model PySem.Challenge.pw_og0152_01 w) _ _ _ _ _
  rename_i s₀ s₁ mg mb G Y fa o pm doc ho hg KX X V GL T B TE TW wA wO M wC wD hcd wns hs hlay0 hL1 hr1 hl2 la1 la2 sl svs la3 hL ra w1 r0 hI hr hc1 hc2 K0 hD h₁ tk₁ F oc1 oc2 oc3 d1 d2 d3 N0 X0
  clear G Y ho X V GL B TE TW M hs hlay0 hL1 hr1 hl2 ra w1 r0 hr hc2 K0 hD hcd
  replace F : Fr s₁.heap s₁.heap.objs.size h₁ (fun y => if y = Str.ofString "script" then some (.ref sl) else none) := F
  replace d1 : oc1.data = .cell none := d1
  replace d2 : oc2.data = .cell none := d2
  replace d3 : oc3.data = .cell none := d3
  have hL60 : svs.length ≤ 63 := by rw [hI.length]; omega
  clear X0
  refine room_law fun dp fr gd un hA => ?_
  k_steps
  refine Stop.mk ?_
  refine tape_list (s₁.heap.objs.size + 1 + 1 + 1) (by assumption) (by assumption) ?_ fun h' tk D vs ns n F N hi hn hlo => ?_
  · with_reducible refine BoolOp_or ?_
    k_steps
    · rename IntsAre _ (List.take 60 _) => hi'
      rename Fr _ _ _ _ => FF
      rename News _ _ _ _ => NN
      exact TapeEnd.mk' FF NN drop2 hi' (by assumption) (by omega) (by omega)
    refine Stop.mk ?_
    with_reducible refine BoolOp_one ?_
    k_steps
    rename Fr _ _ _ _ => FF
    rename News _ _ _ _ => NN
    exact TapeEnd.mk' (vs := [.int 0 _]) (ns := [0]) FF NN drop3 (.cons _ _ .nil) (by decide) (by decide) (by omega)
  k_steps
  refine Stop.mk ?_
  rename_i Ta h1 l1 h2 oT dT h3 tk2 r t1 t2 nT hr4 h4 tk3 t3 u3 v3 RR F1 N1
  dsimp only at RR
  refine comp_rule (n := (1 + r).toNat) (PlainJ Ta D [(D, listOf vs.toArray n), (s₁.heap.objs.size + 1 + 1 + 1, oc1), (s₁.heap.objs.size + 1 + 1, oc2), (s₁.heap.objs.size + 1, oT)]) (by decide) rfl (Iter.range rfl RR (by omega) (small_one (by decide) (by decide) (by omega) (by omega))) F1 N1 (fun b hb => nomatch hb) ⟨Nat.zero_le _, _, _, _, [], [], rfl, by omega, by omega, (fun _ h => nomatch h), .nil, rfl, fun _ h => nomatch h⟩ (fun i nw ys h => h.len) ?_ ?_
  · rintro C D' I i u ys nw₁ oC mC oD oI s₂ TT hi' ⟨tu, rfl⟩ ⟨-, at', t, nT', tl, gss, rfl, ha1, ha2, htl, hp, hl, hb⟩ F₁ N₁ nC off
    refine turn_name F₁ N₁ nC off TT rfl rfl fun oC' h' F' N' n' => ?_
    have hTC : C ≠ Ta := Ne.symm (off _ (.head _)).1
    have hTD : D' ≠ Ta := Ne.symm (off _ (.head _)).2.1
    have hTI : I ≠ Ta := Ne.symm (off _ (.head _)).2.2
    have hne : D ≠ Ta := Nat.ne_of_lt (by omega)
    have hrest : ∀ q ∈ tl ++ [(D, listOf vs.toArray n), (s₁.heap.objs.size + 1 + 1 + 1, oc1), (s₁.heap.objs.size + 1 + 1, oc2), (s₁.heap.objs.size + 1, oT)], q.1 ≠ Ta := fun q hq => by
      rcases List.mem_append.mp hq with hq | hq
      · exact (htl q hq).1
      simp only [List.mem_cons, List.mem_nil_iff, or_false] at hq
      rcases hq with rfl | rfl | rfl | rfl
      · exact hne
      all_goals exact Nat.ne_of_lt (by dsimp only; omega)
    clear F₁ N₁ F1 N1 RR
    k_steps
    rename Fr _ _ _ _ => FF
    rename News _ _ _ _ => NN
    rename RowQ _ _ _ => hq
    exact plain_step FF NN n' off (by assumption) (by omega) ha1 ha2 (by assumption) htl hp hl hb hq (by assumption)
  rintro C P I h' tk nw' ys mC c TT F₁ N₁ n' off ⟨-, at', t, nT', tl, gss, rfl, ha1, ha2, htl, hp, hl, hb⟩
  refine fin_none TT F₁ N₁ n' off fun h2 F2 N2 ne2 => ?_
  have off' : Off C P I (tl ++ [(D, listOf vs.toArray n), (s₁.heap.objs.size + 1 + 1 + 1, oc1), (s₁.heap.objs.size + 1 + 1, oc2), (s₁.heap.objs.size + 1, oT)]) := fun q hq => off q (.tail _ hq)
  have hPT : Ta ≠ P := ne2 _ (.head _)
  have hPR : ∀ q ∈ [(D, listOf vs.toArray n), (s₁.heap.objs.size + 1 + 1 + 1, oc1), (s₁.heap.objs.size + 1 + 1, oc2), (s₁.heap.objs.size + 1, oT)], q.1 ≠ P := fun q hq => (off' q (mem_appR hq)).2.1
  have hPtl : ∀ q ∈ tl, q.1 ≠ P := fun q hq => (off' q (mem_appL hq)).2.1
  clear F₁ N₁ F1 N1 RR n' off TT off'
  replace N2 := news_perm (b := (P, listOf ys.toArray c) :: (s₁.heap.objs.size + 1 + 1 + 1, oc1) :: (s₁.heap.objs.size + 1 + 1, oc2) :: (s₁.heap.objs.size + 1, oT) :: (Ta, listOf [.ref D, .int at' t].toArray nT') :: (D, listOf vs.toArray n) :: tl) N2 permP
  obtain ⟨b1, b2, hTk, b4⟩ := plain_base (oP := listOf ys.toArray c) (oTa := listOf [.ref D, .int at' t].toArray nT') hPT hPR ⟨Nat.lt_succ_self _, Nat.lt_succ_self _, hlo, l1.1⟩ hPtl htl
  refine store_cell F2 N2 rfl (UpdF.tail b1 (UpdF.head b2)) d1 rfl rfl fun h5 oP F5 N5 dP => ?_
  replace b4 := b4 oP
  replace N5 := news_perm N5 permB
  clear F2 N2 b1 b2 hPR hPtl ne2
  obtain ⟨base, hb0⟩ : ∃ base, base = (P, listOf ys.toArray c) :: (s₁.heap.objs.size + 1 + 1 + 1, oP) :: (s₁.heap.objs.size + 1, oT) :: (D, listOf vs.toArray n) :: tl := ⟨_, rfl⟩
  have mP : (P, listOf ys.toArray c) ∈ base := hb0 ▸ .head _
  have mcP : (s₁.heap.objs.size + 1 + 1 + 1, oP) ∈ base := hb0 ▸ .tail _ (.head _)
  have mcT : (s₁.heap.objs.size + 1, oT) ∈ base := hb0 ▸ .tail _ (.tail _ (.head _))
  have mD : (D, listOf vs.toArray n) ∈ base := hb0 ▸ .tail _ (.tail _ (.tail _ (.head _)))
  have mtl : ∀ q ∈ tl, q ∈ base := fun q hq => hb0 ▸ .tail _ (.tail _ (.tail _ (.tail _ hq)))
  rw [← hb0] at b4 N5
  have hDT : D ≠ Ta := Nat.ne_of_lt l1.1
  clear hb0 htl hPT l1 hlo
  k_steps
  refine Stop.mk ?_
  rename_i Rw hx FX NX l1 hy F6 N6
  clear FX NX
  obtain ⟨l1, l2, l3⟩ := l1
  have hbR : ∀ q ∈ (Ta, listOf [.ref D, .int at' t].toArray nT') :: (s₁.heap.objs.size + 1 + 1, oc2) :: base, q.1 ≠ Rw := fun q hq => by
    rcases List.mem_cons.mp hq with rfl | hq
    · exact Nat.ne_of_lt l1
    rcases List.mem_cons.mp hq with rfl | hq
    · exact Nat.ne_of_lt l2
    · exact Nat.ne_of_lt (allLt_mem l3 q hq)
  refine for_rule (fun i m nw => RowsJ w.params Rw (fun y => if y = Str.ofString "rows" then some (.ref Rw) else if y = Str.ofString "script" then some (.ref sl) else none) ((Ta, listOf [.ref D, .int at' t].toArray nT') :: (s₁.heap.objs.size + 1 + 1, oc2) :: base) gss i m nw) (Iter.list rfl ⟨_, (N6 _ (.tail _ (.tail _ (.tail _ mP)))).1, rfl, _, rfl⟩) F6 N6 (fun b hb => .inr ⟨listOf ys.toArray c, fun i m nw h => h.mem _ (by rw [List.mem_singleton.mp hb]; exact .tail _ (.tail _ mP))⟩) ⟨_, [], 0, [], upd_self _ _, rfl, (fun _ h => nomatch h), .nil⟩ ?_ ?_
  · rintro i u m₁ nw₁ I oI s₂ hi' hP ⟨u1, rvs, nR, tl2, rfl, rfl, htl2, hpr⟩ F₁ N₁ hd₁
    obtain ⟨gs, hgs, qvs, ⟨ra, rn, rfl, hra⟩, hqv⟩ := paired_get hp (by simpa using hP)
    clear F6 N6
    k_steps
    refine Stop.mk ?_
    rename Fr _ _ _ _ => F7
    rename News _ _ _ _ => N7
    have mm : (ra, listOf qvs.toArray rn) ∈ (I, oI) :: (Rw, listOf rvs.toArray nR) :: (tl2 ++ (Ta, listOf [.ref D, .int at' t].toArray nT') :: (s₁.heap.objs.size + 1 + 1, oc2) :: base) := .tail _ (.tail _ (mem_appR (.tail _ (.tail _ (mtl _ hra)))))
    have hg4 := (hb gs (List.mem_of_getElem? hgs)).2
    refine comp_pureO (GlyphBy w.params) GlyphBy.mono (fun _ _ => False) gs (by decide) rfl (Iter.list rfl ⟨_, (N7 _ mm).1, rfl, _, rfl⟩) F7 N7 (src_news mm) (by simp [hqv.length]) (by omega) ?_ ?_
    · intro C D2 I2 j u b nw₁ oC mC oD oI2 s₃ TT hP2 hb2 F₂ N₂ nC off hsub
      obtain ⟨g, hg, hgq⟩ := paired_get hqv (by simpa using hP2)
      obtain rfl : g = b := by rw [hg] at hb2; exact Option.some.inj hb2
      obtain ⟨ga, gn, x1, x2, x3, x4, rfl, hga⟩ := hgq
      have hgh := (N₂ (ga, _) (.tail _ (.tail _ (.tail _ (hsub _ (.tail _ (.tail _ (mem_appR (.tail _ (.tail _ (mtl _ hga)))))))))) ).1
      clear F₁ N₁ F7 N7
      refine pure_tup4 rfl hgh F₂ N₂ nC off TT rfl rfl rfl rfl rfl fun oC' h' tk F' N' n' => ?_
      clear F₂ N₂
      k_steps
      rename Fr _ _ _ _ => FF
      rename News _ _ _ _ => NN
      rename GlyphBy _ _ _ _ => hG
      exact PEnd.call5 FF NN n' (by assumption) (by assumption) (by assumption) (by assumption) (by assumption) (hG.mono HU.right)
    intro C2 D2 I2 h6 tk6 tl6 gvs mC6 c6 TT6 F8 N8 n8 off8 oo8 p8
    refine fin_none TT6 F8 N8 n8 off8 fun h7 F9 N9 ne9 => ?_
    have hrl : rvs.length ≤ 1000000 := by rw [hpr.length, List.length_take]; omega
    clear F8 N8 n8 F₁ N₁ F7 N7
    k_steps
    refine Stop.mk ?_
    refine rows_append F9 N9 ne9 oo8 hd₁ htl2 hbR hrl fun h8 n8 F10 N10 => ?_
    clear F9 N9
    k_steps
    rename Fr _ _ _ _ => FF
    rename News _ _ _ _ => NN
    exact rows_end FF NN ne9 oo8 hd₁ htl2 hpr hgs p8
  · rintro m' nw' h6 tk6 ⟨u1, rvs, nR, tl2, rfl, rfl, htl2, hpr⟩ F₁ N₁
    clear F6 N6
    have hrg : ys.toArray.size = gss.length := by rw [List.size_toArray]; exact hp.length
    rw [hrg, List.take_length] at hpr
    k_steps
    refine Stop.mk ?_
    rename IsRange _ _ _ _ _ _ _ _ => R2
    rename Fr _ _ _ _ => F2
    rename News _ _ _ _ => N2
    dsimp only at R2
    have hg4 : gss.length ≤ 4 := by omega
    have hfl : (tagged gss).flatten.length ≤ 16 := Nat.le_trans (tagged_bound fun gs h => (hb gs h).2) (by omega)
    rename_i zcut0x1 zcut0x2 zcut0x3 zcut0x4 zcut0x5 zcut0x6 zcut0x7 zcut0x8 zcut0x9 zcut0x10 zcut0x11 zcut0x12 zcut0x13
    revert w s₀ s₁ mg mb fa o pm doc hg KX T wA wO wC wD wns la1 la2 sl svs la3 hL hI hc1 h₁ tk₁ oc1 oc2 oc3 qk ek d1 d2 d3 hL60 dp fr gd un hA zcut0x1 zcut0x2 D vs ns n hi hn Ta h1 zcut0x3 oT dT zcut0x4 h3 tk2 r t1 t2 nT hr4 h4 tk3 t3 u3 v3 C P I h' zcut0x5 ys mC c at' t nT' tl gss ha1 ha2 hp hl hb h2 hTk h5 oP dP base b4 mP mcP mcT mD mtl hDT Rw hx hy tk l1 l2 l3 hbR h6 tk6 u1 rvs nR tl2 htl2 hpr zcut0x6 zcut0x7 hrg zcut0x8 zcut0x9 zcut0x10 zcut0x11 zcut0x12 R2 F2 N2 zcut0x13 hg4 hfl
    exact hgoes.p)⟩
def cut1 : Σ' P : Prop, (Hold P → cut0.1) := ⟨_, fun hgoes => by
  intro w s₀ s₁ mg mb fa o pm doc hg KX T wA wO wC wD wns la1 la2 sl svs la3 hL hI hc1 h₁ tk₁ oc1 oc2 oc3 qk ek d1 d2 d3 hL60 dp fr gd un hA zcut0x1 zcut0x2 D vs ns n hi hn Ta h1 zcut0x3 oT dT zcut0x4 h3 tk2 r t1 t2 nT hr4 h4 tk3 t3 u3 v3 C P I h' zcut0x5 ys mC c at' t nT' tl gss ha1 ha2 hp hl hb h2 hTk h5 oP dP base b4 mP mcP mcT mD mtl hDT Rw hx hy tk l1 l2 l3 hbR h6 tk6 u1 rvs nR tl2 htl2 hpr zcut0x6 zcut0x7 hrg zcut0x8 zcut0x9 zcut0x10 zcut0x11 zcut0x12 R2 F2 N2 zcut0x13 hg4 hfl
  refine comp_pure2 PairBy PairBy.mono (ML tl) (tagged gss) (fun i mC => ∃ t, mC (Str.ofString "k") = some (.int i t)) (fun i vs => ∃ gs, gss[i]? = some gs ∧ Paired (QuadBy (ML tl)) vs gs) (n := gss.length) rfl (by decide) rfl (Iter.range rfl R2 rfl (small_one (by decide) (by decide) (by omega) (by omega))) F2 N2 (fun b hb => nomatch hb) (tagged_len gss).symm (by omega) ?_ ?_ ?_ ?_ ?_
  · intro _ _; with_unfolding_all rfl
  · rintro i bs vs' hbs ⟨gs, hgs, hv⟩
    obtain ⟨gs', hgs', rfl⟩ := tagged_get hbs
    rw [hgs] at hgs'; cases hgs'
    rw [hv.length, List.length_map]
  · rintro C D2 I2 i u bs nw₁ oC mC oD oI2 s₃ TT ⟨tu, rfl⟩ hbs F₂ N₂ nC off hsub
    obtain ⟨gs, hgs, rfl⟩ := tagged_get hbs
    clear F2 N2 R2
    refine asg_name F₂ N₂ nC (offC_of TT off) TT.CL TT.C0 rfl ?_ ?_ fun oC' h' F' N' n' => ?_
    · with_unfolding_all rfl
    · with_unfolding_all rfl
    clear F₂ N₂
    have hmb : ∀ q ∈ base, q ∈ nw₁ := fun q hq => hsub q (.tail _ (mem_appR (.tail _ (.tail _ hq))))
    have mcP' := hmb _ mcP
    have mP' := hmb _ mP
    obtain ⟨y, hy, qvs, ⟨ra, rn, rfl, hra⟩, hqv⟩ := paired_get' hp hgs
    k_steps
    have hi : i < gss.length := by
      rcases Nat.lt_or_ge i gss.length with h | h
      · exact h
      · rw [List.getElem?_eq_none h] at hgs; cases hgs
    rename Fr _ _ _ _ => FF
    rename News _ _ _ _ => NN
    refine item_listL (News.isList NN (.tail _ (.tail _ (.tail _ mP')))) (by omega) (by omega) (show ys[(i : Int).toNat]? = _ from hy) ?_ (by with_unfolding_all rfl) (by intro _; with_unfolding_all rfl)
    exact SrcEnd.mk' FF NN n' (.tail _ (mem_appR (.tail _ (.tail _ (mtl _ hra))))) ⟨gs, hgs, hqv⟩ ⟨tu, if_pos rfl⟩
  · rintro C D2 I2 i j vs' v bs b nw₁ oC mC oD oI2 s₃ TT hbs ⟨gs, hgs, hv⟩ hvj hbj F₂ N₂ nC ⟨tk', hk⟩ off hsub
    obtain ⟨gs', hgs', rfl⟩ := tagged_get hbs
    rw [hgs] at hgs'; cases hgs'
    clear F2 N2 R2
    refine asg_name F₂ N₂ nC (offC_of TT off) TT.CL TT.C0 rfl (by with_unfolding_all rfl) (by with_unfolding_all rfl) fun oC' h' F' N' n' => ?_
    clear F₂ N₂
    have hk' : (fun y => if y = Str.ofString "one" then some v else mC y) (Str.ofString "k") = some (.int i tk') := hk
    k_steps
    rename Fr _ _ _ _ => FF
    rename News _ _ _ _ => NN
    obtain ⟨g, hg, hq⟩ := paired_get hv hvj
    have hb2 : b = (i, g) := by
      rw [List.getElem?_map, hg] at hbj
      exact (Option.some.inj hbj).symm
    subst hb2
    exact pair_end FF NN n' (by assumption) hq ⟨tk', hk'⟩
  · intro C2 D3 I3 h8 tk8 tl3 ovs mC8 c8 TT8 F8 N8 n8 off8 oo8 hpo
    refine fin_local TT8 F8 N8 n8 off8 (by with_unfolding_all rfl) (by with_unfolding_all rfl) fun h9 tk9 F9 N9 ne9 => ?_
    have hln : ovs.length = gss.flatten.length := by rw [hpo.length, tagged_total]
    have hpos : 1 ≤ gss.flatten.length := total_pos (by omega) hb
    have hov : 1 ≤ ovs.length ∧ ovs.length ≤ 16 := ⟨by omega, by rw [hpo.length]; exact hfl⟩
    obtain ⟨R, NR, sR, kB, k2, k3, mO, mRw⟩ := order_base N9 ne9 oo8 htl2 hbR b4
    have hpo' : Paired (PairBy (ML R)) ovs (tagged gss).flatten := Paired.mono' (fun _ _ h => h.mono fun _ _ h => h.elim (fun m => kB _ (mtl _ m)) fun m => k3 _ m) hpo
    have hpr' : Paired (RowBy w.params (ML R)) rvs gss := Paired.mono' (fun _ _ h => h.mono fun _ _ h => k2 _ h) hpr
    have hyl : ys.length = gss.length := hp.length
    replace mP := kB _ mP
    replace mcP := kB _ mcP
    replace mcT := kB _ mcT
    replace mD := kB _ mD
    have hat : 0 ≤ at' ∧ at' ≤ 100 := by omega
    have keep := And.intro F9 NR
    clear F9 NR F8 N8 n8 off8 oo8 TT8 N9 ne9 F2 N2 R2 htl2 hbR b4 hpo hpr hp mtl l1 l2 l3 kB k2 k3 hfl hrg
    rename Fr _ _ _ _ => Fz
    rename News _ _ _ _ => Nz
    clear Fz Nz
    obtain ⟨F9, NR⟩ := keep
    revert w s₀ s₁ mg mb fa o pm doc hg KX T wA wO wC wD wns la1 la2 sl svs la3 hL hI hc1 h₁ tk₁ oc1 oc2 oc3 qk ek d1 d2 d3 hL60 dp fr gd un hA zcut0x1 zcut0x2 D vs ns n hi hn Ta h1 zcut0x3 oT dT zcut0x4 h3 tk2 r t1 t2 nT hr4 h4 tk3 t3 u3 v3 C P I h' zcut0x5 ys mC c at' t nT' tl gss ha1 ha2 hl hb h2 hTk h5 oP dP base hDT Rw hx hy tk h6 tk6 u1 rvs nR tl2 zcut0x8 zcut0x9 zcut0x10 zcut0x11 zcut0x12 zcut0x13 hg4 C2 D3 I3 h8 tk8 tl3 ovs mC8 c8 h9 tk9 hln hpos hov R sR mO mRw hpo' hpr' hyl mP mcP mcT mD hat F9 NR
    exact hgoes.p⟩
def cut2 : Σ' P : Prop, (Hold P → cut1.1) := ⟨_, fun hgoes => by
  intro w s₀ s₁ mg mb fa o pm doc hg KX T wA wO wC wD wns la1 la2 sl svs la3 hL hI hc1 h₁ tk₁ oc1 oc2 oc3 qk ek d1 d2 d3 hL60 dp fr gd un hA zcut0x1 zcut0x2 D vs ns n hi hn Ta h1 zcut0x3 oT dT zcut0x4 h3 tk2 r t1 t2 nT hr4 h4 tk3 t3 u3 v3 C P I h' zcut0x5 ys mC c at' t nT' tl gss ha1 ha2 hl hb h2 hTk h5 oP dP base hDT Rw hx hy tk h6 tk6 u1 rvs nR tl2 zcut0x8 zcut0x9 zcut0x10 zcut0x11 zcut0x12 zcut0x13 hg4 C2 D3 I3 h8 tk8 tl3 ovs mC8 c8 h9 tk9 hln hpos hov R sR mO mRw hpo' hpr' hyl mP mcP mcT mD hat F9 NR
  have sT : ∀ q ∈ (s₁.heap.objs.size + 1 + 1, oc2) :: R, q.1 ≠ Ta := fun q hq => by
    rcases List.mem_cons.mp hq with rfl | hq
    · exact Ne.symm hTk
    · exact (sR q hq).1
  k_steps
  refine Stop.mk ?_
  rename_i g1 g2 f tf tf2 nf Fo No hf0 g3 k1 g4 k2 d td td2 nd hl0 g5 F1 N1
  refine row_boxes_use (R := R) (hA.mono (by decide)) F1 KX T N1 (fun q hq => .tail _ (.tail _ hq)) ⟨Rw, nR, rfl, mRw⟩ hpr' (by omega) (fun gs h => by have := (hb gs h).2; omega) (by omega) (by omega) fun h10 tk10 tl4 fo bvs nfo F2 N2 O2 ne2 hb2 => ?_
  obtain ⟨R2, N3, s2, k4, k5, mF⟩ := found_base N2 O2 sR
  have hpo2 : Paired (PairBy (ML R2)) ovs (tagged gss).flatten := Paired.mono' (fun _ _ h => h.mono fun _ _ h => k4 _ h) hpo'
  have hpr2 : Paired (RowBy w.params (ML R2)) rvs gss := Paired.mono' (fun _ _ h => h.mono fun _ _ h => k4 _ h) hpr'
  have hbv : Paired (BoxBy w.params (ML R2)) bvs ((parts gss f.toNat (f + d + 1).toNat).filterMap bx) := by
    rw [← row_boxes_is]
    exact Paired.mono' (fun _ _ h => h.mono fun _ _ h => h.elim (fun m => k4 _ m) fun m => k5 _ m) hb2
  replace mP := k4 _ mP
  replace mcP := k4 _ mcP
  replace mO := k4 _ mO
  replace mRw := k4 _ mRw
  have hfl : 0 ≤ f ∧ f ≤ f + d ∧ f + d < gss.flatten.length := by omega
  clear hpo' hpr' hb2 k4 k5 O2 N2 ne2 sR sT mcT mD N1 F1 Fo No
  generalize f + d = l at *
  clear hl0 hf0
  k_steps
  refine Stop.mk ?_
  rename IsRange _ _ _ _ _ _ _ _ => R3
  rename Fr _ _ _ _ => F3
  rename News _ _ _ _ => N3
  rename _ < _ ∧ AllLt _ R2 => l1
  obtain ⟨Dd, hDd⟩ := get_top l1
  subst hDd
  dsimp only at R3
  obtain ⟨lk, lR⟩ := l1
  have hck : Dd ≠ s₁.heap.objs.size + 1 + 1 := Nat.ne_of_gt lk
  have hRd : ∀ q ∈ R2, q.1 ≠ s₁.heap.objs.size + 1 + 1 ∧ q.1 ≠ Dd := fun q hq => ⟨s2 q hq, Nat.ne_of_lt (allLt_mem lR q hq)⟩
  clear lk lR s2
  have hcut := Paired.take ((l + 1).toNat - f.toNat) (Paired.drop f.toNat hpo2)
  rename_i zcut2x1 zcut2x2 zcut2x3 zcut2x4 zcut2x5 zcut2x6 zcut2x7 zcut2x8 zcut2x9 zcut2x10 zcut2x11
  revert w s₀ s₁ mg mb fa o pm doc hg KX T wA wO wC wD wns la1 la2 sl svs la3 hL hI hc1 h₁ tk₁ oc1 oc2 oc3 qk ek d1 d2 d3 hL60 dp fr gd un hA zcut0x1 zcut0x2 D vs ns n hi hn Ta h1 zcut0x3 oT dT zcut0x4 h3 tk2 r t1 t2 nT hr4 h4 tk3 t3 u3 v3 C P I h' zcut0x5 ys mC c at' t nT' tl gss ha1 ha2 hl hb h2 hTk h5 oP dP base hDT Rw hx hy zcut2x1 h6 tk6 u1 rvs nR tl2 zcut0x8 zcut0x9 zcut0x10 zcut0x11 zcut0x12 zcut0x13 hg4 C2 D3 I3 h8 tk8 tl3 ovs mC8 c8 h9 tk9 hln hpos hov R hyl hat g1 g2 f tf tf2 nf g3 k1 g4 k2 d td td2 nd g5 zcut2x2 h10 tk10 tl4 fo bvs nfo R2 mF hpo2 hpr2 mP mcP mO mRw l hbv hfl zcut2x3 zcut2x4 zcut2x5 zcut2x6 tk zcut2x7 zcut2x8 zcut2x9 zcut2x10 zcut2x11 R3 Dd F3 N3 hck hRd hcut
  exact hgoes.p⟩
def cut3 : Σ' P : Prop, (Hold P → cut2.1) := ⟨_, fun hgoes => by
  intro w s₀ s₁ mg mb fa o pm doc hg KX T wA wO wC wD wns la1 la2 sl svs la3 hL hI hc1 h₁ tk₁ oc1 oc2 oc3 qk ek d1 d2 d3 hL60 dp fr gd un hA zcut0x1 zcut0x2 D vs ns n hi hn Ta h1 zcut0x3 oT dT zcut0x4 h3 tk2 r t1 t2 nT hr4 h4 tk3 t3 u3 v3 C P I h' zcut0x5 ys mC c at' t nT' tl gss ha1 ha2 hl hb h2 hTk h5 oP dP base hDT Rw hx hy zcut2x1 h6 tk6 u1 rvs nR tl2 zcut0x8 zcut0x9 zcut0x10 zcut0x11 zcut0x12 zcut0x13 hg4 C2 D3 I3 h8 tk8 tl3 ovs mC8 c8 h9 tk9 hln hpos hov R hyl hat g1 g2 f tf tf2 nf g3 k1 g4 k2 d td td2 nd g5 zcut2x2 h10 tk10 tl4 fo bvs nfo R2 mF hpo2 hpr2 mP mcP mO mRw l hbv hfl zcut2x3 zcut2x4 zcut2x5 zcut2x6 tk zcut2x7 zcut2x8 zcut2x9 zcut2x10 zcut2x11 R3 Dd F3 N3 hck hRd hcut
  replace N3 := news_perm N3 swap2
  refine for_rule (n := ys.length) (fun i m nw => DueJ (s₁.heap.objs.size + 1 + 1) Dd _ R2 (parts gss f.toNat (l + 1).toNat) i m nw) (Iter.range rfl R3 rfl (small_one (by decide) (by decide) (by omega) (by omega))) F3 N3 (fun b hb => nomatch hb) ⟨_, _, _, [], 0, [], upd_self _ _, rfl, d2, (fun _ h => nomatch h), .nil⟩ ?_ ?_
  · rintro i u m₁ nw₁ I oI s₂ hi' ⟨tu, rfl⟩ ⟨u2, ock, v2, dvs, nD, tl5, rfl, rfl, hock, htl5, hdv⟩ F₁ N₁ hd₁
    obtain ⟨p, hp⟩ : ∃ p, (parts gss f.toNat (l + 1).toNat)[i]? = some p := ⟨_, List.getElem?_eq_getElem (by rw [parts_len]; omega)⟩
    clear F3 N3
    refine asg_cell (pre := [(I, oI)]) F₁ N₁ hock (fun q hq => by rw [List.mem_singleton.mp hq]; exact Ne.symm (hd₁ _ (.head _))) (fun q hq => ?_) ?_ ?_ ?_ fun oc' h' F' N' hoc' => ?_
    · rcases List.mem_cons.mp hq with rfl | hq
      · exact hck
      rcases List.mem_append.mp hq with hq | hq
      · exact (htl5 q hq).1
      · exact (hRd q hq).1
    · with_unfolding_all rfl
    · with_unfolding_all rfl
    · with_unfolding_all rfl
    replace N' := news_perm (b := (I, oI) :: (s₁.heap.objs.size + 1 + 1, oc') :: (Dd, listOf dvs.toArray nD) :: (tl5 ++ R2)) N' fun q h => h
    clear F₁ N₁
    k_steps
    refine Stop.mk ?_
    rename Fr _ _ _ _ => F4
    rename News _ _ _ _ => N4
    have hlc := hcut.length
    have hlo : ((ovs.drop f.toNat).take ((l + 1).toNat - f.toNat)).length ≤ 16 := by rw [List.length_take, List.length_drop]; omega
    refine comp_filt (fun y (b : Nat × Gl) => QuadBy (ML R2) y b.2) (((tagged gss).flatten.drop f.toNat).take ((l + 1).toNat - f.toNat)) (fun q => q.1 == i) (by decide) rfl (Iter.list rfl ⟨_, (N4 _ (.head _)).1, rfl, _, rfl⟩) F4 N4 (src_news (.head _)) (by rw [List.size_toArray]; exact hlc) (by omega) ?_ ?_
    · intro C D5 I5 j u b oC mC oD oI5 s₃ TT hP hb2 F₂ N₂ nC off
      obtain ⟨b', hb', pa, pn, pt, pq, rfl, hpa, hpq⟩ := paired_get hcut (by simpa using hP)
      obtain rfl : b' = b := by rw [hb2] at hb'; exact (Option.some.inj hb').symm
      clear F4 N4
      refine asg_name F₂ N₂ nC (offC_of TT off) TT.CL TT.C0 rfl ?_ ?_ fun oC' h' F' N' n' => ?_
      · with_unfolding_all rfl
      · with_unfolding_all rfl
      clear F₂ N₂
      have hpt := (N' (pa, _) (.tail _ (.tail _ (.tail _ (.tail _ (.tail _ (.tail _ (.tail _ (mem_appR hpa))))))))).1
      have hit : IsTup h' pa [Value.int b'.1 pt, pq].toArray := ⟨_, hpt, rfl, pn, rfl⟩
      k_steps
      · exact nat_beq _ _
      · exact SEnd.mk' F' N' n' hpq
      · exact SEnd.mk' F' N' n' trivial
    · intro C5 D5 I5 h11 tk11 ys5 mC5 c5 TT5 F5 N5 n5 off5 hys
      refine fin_local TT5 F5 N5 n5 off5 (by with_unfolding_all rfl) (by with_unfolding_all rfl) fun h12 tk12 F6 N6 ne6 => ?_
      have hyq : Paired (QuadBy (ML R2)) ys5 p := by rw [← cut_filter hp]; exact Paired.of_map hys
      have hyl5 : ys5.length = p.length := hyq.length
      have hy16 : ys5.length ≤ 16 := by
        rw [hys.length]
        exact Nat.le_trans (List.length_filter_le _ _) (by rw [← hlc]; exact hlo)
      have hdI : ∀ o, ∀ q ∈ (s₁.heap.objs.size + 1 + 1, o) :: (Dd, listOf dvs.toArray nD) :: (tl5 ++ R2), q.1 ≠ I := fun o q hq => by
        rcases List.mem_cons.mp hq with rfl | hq
        · exact hd₁ (s₁.heap.objs.size + 1 + 1, ock) (.head _)
        · exact hd₁ q (.tail _ hq)
      clear F5 N5 n5 off5 TT5 F4 N4 ne6 hys
      by_cases hpe : p = []
      · have hye : ys5 = [] := List.length_eq_zero_iff.mp (by rw [hyl5, hpe]; rfl)
        k_steps
        refine Stop.mk ?_
        rename Fr _ _ _ _ => Fq
        rename News _ _ _ _ => Nq
        refine ne_nilF (vs := ys5) (News.isList Nq (.tail _ (.head _))) hye (News.isList Nq (.head _)) hA.cl ?_
        k_steps
        rename Fr _ _ _ _ => FF
        rename News _ _ _ _ => NN
        exact due_skip FF NN (fun q hq => .tail _ (.tail _ (.tail _ hq))) hdI hoc' htl5 hdv hp hpe
      · have hye : ys5 ≠ [] := fun e => hpe (List.length_eq_zero_iff.mp (by rw [← hyl5, e]; rfl))
        have hdl : dvs.length ≤ 1000000 := by
          rw [hdv.length]
          refine Nat.le_trans (List.length_filterMap_le _ _) ?_
          rw [List.length_take, parts_len]
          omega
        k_steps
        refine Stop.mk ?_
        rename Fr _ _ _ _ => Fq
        rename News _ _ _ _ => Nq
        refine ne_nilT (vs := ys5) (News.isList Nq (.tail _ (.head _))) hye (News.isList Nq (.head _)) hA.cl ?_
        k_steps
        refine Stop.mk ?_
        rename Fr _ _ _ _ => FF
        rename News _ _ _ _ => NN
        refine law_told_use (R := R2) (hA.mono (by decide)) FF KX T NN (fun q hq => .tail _ (.tail _ (.tail _ (.tail _ (.tail _ (.tail _ (mem_appR hq))))))) ⟨D5, c5, rfl, .tail _ (.head _)⟩ hyq hpe (by omega) fun h13 tk13 t6 x F7 N7 O7 hx => ?_
        clear FF NN
        k_steps
        refine Stop.mk ?_
        refine due_append F7 N7 (fun q hq => .tail _ (.tail _ (.tail _ hq))) (fun q hq => mem_appL hq) (fun q hq => mem_appR hq) O7 hdI htl5 hck hRd hdl fun h14 n14 F8 N8 => ?_
        clear F7 N7
        k_steps
        rename Fr _ _ _ _ => FF
        rename News _ _ _ _ => NN
        exact due_add FF NN (fun q hq => .tail _ (.tail _ (.tail _ hq))) O7 hdI hoc' htl5 hdv hp hpe hx
  · rintro m' nw' h15 tk15 ⟨u2, ock, v2, dvs, nD, tl5, rfl, rfl, hock, htl5, hdv⟩ F₁ N₁
    rw [List.take_of_length_le (by rw [parts_len]; omega)] at hdv
    clear F3 N3 R3
    obtain ⟨R3, N3, mDd, k6, k7⟩ := all_base N₁
    have hpo3 : Paired (PairBy (ML R3)) ovs (tagged gss).flatten := Paired.mono' (fun _ _ h => h.mono (ml_up k7)) hpo2
    have hpr3 : Paired (RowBy w.params (ML R3)) rvs gss := Paired.mono' (fun _ _ h => h.mono (ml_up k7)) hpr2
    have hbv3 : Paired (BoxBy w.params (ML R3)) bvs ((parts gss f.toNat (l + 1).toNat).filterMap bx) := Paired.mono' (fun _ _ h => h.mono (ml_up k7)) hbv
    have hdv3 : Paired (BToldBy (ML R3)) dvs ((parts gss f.toNat (l + 1).toNat).filterMap bx) := Paired.mono' (fun _ _ h => h.mono (ml_up k6)) hdv
    replace mO := k7 _ mO
    replace mRw := k7 _ mRw
    replace mF := k7 _ mF
    have hbl : ((parts gss f.toNat (l + 1).toNat).filterMap bx).length ≤ 4 := by
      refine Nat.le_trans (List.length_filterMap_le _ _) ?_
      rw [parts_len]
      exact hg4
    have hne : (parts gss f.toNat (l + 1).toNat).flatten ≠ [] := cut_ne (by omega) (by omega)
    clear hpo2 hpr2 hbv hdv hcut k6 k7 N₁ htl5 hock hRd hck mP mcP
    revert w s₀ s₁ mg mb fa o pm doc hg KX T wA wO wC wD wns la1 la2 sl svs la3 hL hI hc1 h₁ tk₁ oc1 oc2 oc3 qk ek d1 d2 d3 hL60 dp fr gd un hA zcut0x1 zcut0x2 D vs ns n hi hn Ta h1 zcut0x3 oT dT zcut0x4 h3 tk2 r t1 t2 nT hr4 h4 tk3 t3 u3 v3 C P I h' zcut0x5 ys mC c at' t nT' tl gss ha1 ha2 hl hb h2 hTk h5 oP dP base hDT Rw hx hy zcut2x1 h6 tk6 u1 rvs nR tl2 zcut0x8 zcut0x9 zcut0x10 zcut0x11 zcut0x12 zcut0x13 hg4 C2 D3 I3 h8 tk8 tl3 ovs mC8 c8 h9 tk9 hln hpos hov R hyl hat g1 g2 f tf tf2 nf g3 k1 g4 k2 d td td2 nd g5 zcut2x2 h10 tk10 tl4 fo bvs nfo R2 l hfl zcut2x3 zcut2x4 zcut2x5 zcut2x6 tk zcut2x7 zcut2x8 zcut2x9 zcut2x10 zcut2x11 Dd h15 tk15 u2 ock v2 dvs nD tl5 F₁ R3 N3 mDd hpo3 hpr3 hbv3 hdv3 mO mRw mF hbl hne
    exact hgoes.p⟩
def cut4 : Σ' P : Prop, (Hold P → cut3.1) := ⟨_, fun hgoes => by
  intro w s₀ s₁ mg mb fa o pm doc hg KX T wA wO wC wD wns la1 la2 sl svs la3 hL hI hc1 h₁ tk₁ oc1 oc2 oc3 qk ek d1 d2 d3 hL60 dp fr gd un hA zcut0x1 zcut0x2 D vs ns n hi hn Ta h1 zcut0x3 oT dT zcut0x4 h3 tk2 r t1 t2 nT hr4 h4 tk3 t3 u3 v3 C P I h' zcut0x5 ys mC c at' t nT' tl gss ha1 ha2 hl hb h2 hTk h5 oP dP base hDT Rw hx hy zcut2x1 h6 tk6 u1 rvs nR tl2 zcut0x8 zcut0x9 zcut0x10 zcut0x11 zcut0x12 zcut0x13 hg4 C2 D3 I3 h8 tk8 tl3 ovs mC8 c8 h9 tk9 hln hpos hov R hyl hat g1 g2 f tf tf2 nf g3 k1 g4 k2 d td td2 nd g5 zcut2x2 h10 tk10 tl4 fo bvs nfo R2 l hfl zcut2x3 zcut2x4 zcut2x5 zcut2x6 tk zcut2x7 zcut2x8 zcut2x9 zcut2x10 zcut2x11 Dd h15 tk15 u2 ock v2 dvs nD tl5 F₁ R3 N3 mDd hpo3 hpr3 hbv3 hdv3 mO mRw mF hbl hne
  k_steps
  refine Stop.mk ?_
  refine comp_pure BToldBy BToldBy.mono (fun _ _ => False) ((parts gss f.toNat (l + 1).toNat).filterMap bx) (by decide) rfl (Iter.list rfl ⟨_, (N3 _ mF).1, rfl, _, rfl⟩) F₁ N3 (src_news mF) (by rw [List.size_toArray]; exact hbv3.length) (by omega) ?_ ?_
  · intro C D I i u b nw₁ oC mC oD oI s₃ TT hP hb2 F₂ N₂ nC off hsub
    obtain ⟨b', hb', hu⟩ := paired_get hbv3 (by simpa using hP)
    obtain rfl : b' = b := by rw [hb2] at hb'; exact (Option.some.inj hb').symm
    clear F₁ N3
    refine pure_name F₂ N₂ nC off TT ?_ ?_ fun oC' h' F' N' n' => ?_
    · with_unfolding_all rfl
    · with_unfolding_all rfl
    clear F₂ N₂
    k_steps
    refine Stop.mk ?_
    refine box_told_use (has := ML R3) (hA.mono (by decide)) F' KX T N' (ml_at N' fun q hq => .tail _ (.tail _ (.tail _ (hsub q hq)))) hu fun h tk tl r F N O hx => ?_
    exact PEnd.call F N n' O (hx.mono HU.right)
  intro C1 D1 I1 h1 tk1 tl1 ys1 mC1 c1 TT1 F1 N1 n1 off1 p1
  refine fin_none TT1 F1 N1 n1 off1 fun h2 F2 N2 ne2 => ?_
  clear F1 N1 n1 off1 TT1 ne2 F₁ N3
  k_steps
  refine Stop.mk ?_
  refine ne_boxes (has := HU (fun _ _ => False) tl1) (has' := ML R3) (fun a o h => h.elim False.elim fun m => (N2 (a, o) (.tail _ (mem_appL m))).1) (ml_at N2 fun q hq => .tail _ (mem_appR hq)) ⟨D1, c1, rfl, (N2 _ (.head _)).1⟩ ⟨Dd, nD, rfl, (N2 _ (.tail _ (mem_appR mDd))).1⟩ p1 hdv3 hA.eqs ?_
  k_steps
  refine Stop.mk ?_
  rename Fr _ _ _ _ => F4
  rename News _ _ _ _ => N4
  refine row_boxes_use (R := R3) (hA.mono (by decide)) F4 KX T N4 (fun q hq => .tail _ (mem_appR hq)) ⟨Rw, nR, rfl, mRw⟩ hpr3 (by omega) (fun gs h => by have := (hb gs h).2; omega) (by omega) (by omega) fun h17 tk17 tl6 ro bv2 nro F5 N5 O5 ne5 hb5 => ?_
  have hbe : bv2 = [] := by
    rw [row_boxes_none] at hb5
    cases hb5
    rfl
  clear hb5 ne5 O5 F4 N4 p1
  k_steps
  refine Stop.mk ?_
  rename Fr _ _ _ _ => F6
  rename News _ _ _ _ => N6
  refine ne_nilF (vs := bv2) (News.isList N6 (.tail _ (.head _))) hbe (News.isList N6 (.head _)) hA.cl ?_
  k_steps
  refine Stop.mk ?_
  replace N6 := news_perm (b := R3) N6 fun q hq => .tail _ (.tail _ (mem_appR (.tail _ (mem_appR hq))))
  clear hbe
  rename_i zcut4x1 zcut4x2 zcut4x3 zcut4x4 zcut4x5 zcut4x6
  revert w s₀ s₁ mg mb fa o pm doc hg KX T wA wO wC wD wns la1 la2 sl svs la3 hL hI hc1 h₁ tk₁ oc1 oc2 oc3 qk ek d1 d2 d3 hL60 dp fr gd un hA zcut0x1 zcut0x2 D vs ns n hi hn Ta zcut4x1 zcut0x3 oT dT zcut0x4 h3 tk2 r t1 t2 nT hr4 h4 tk3 t3 u3 v3 C P I h' zcut0x5 ys mC c at' t nT' tl gss ha1 ha2 hl hb zcut4x2 hTk h5 oP dP base hDT Rw hx hy zcut2x1 h6 tk6 u1 rvs nR tl2 zcut0x8 zcut0x9 zcut0x10 zcut0x11 zcut0x12 zcut0x13 hg4 C2 D3 I3 h8 tk8 tl3 ovs mC8 c8 h9 tk9 hln hpos hov R hyl hat g1 g2 f tf tf2 nf g3 k1 g4 k2 d td td2 nd g5 zcut2x2 h10 tk10 tl4 fo bvs nfo R2 l hfl zcut2x3 zcut2x4 zcut2x5 zcut2x6 zcut4x3 zcut2x7 zcut2x8 zcut2x9 zcut2x10 zcut2x11 Dd h15 tk15 u2 ock v2 dvs nD tl5 R3 mDd hpo3 hpr3 hbv3 hdv3 mO mRw mF hbl hne C1 D1 I1 h1 tk1 tl1 ys1 mC1 c1 h2 h17 tk17 tl6 ro bv2 nro zcut4x4 zcut4x5 F6 zcut4x6 tk N6
  exact hgoes.p⟩
theorem lastPart : cut4.1 := by
  intro w s₀ s₁ mg mb fa o pm doc hg KX T wA wO wC wD wns la1 la2 sl svs la3 hL hI hc1 h₁ tk₁ oc1 oc2 oc3 qk ek d1 d2 d3 hL60 dp fr gd un hA zcut0x1 zcut0x2 D vs ns n hi hn Ta zcut4x1 zcut0x3 oT dT zcut0x4 h3 tk2 r t1 t2 nT hr4 h4 tk3 t3 u3 v3 C P I h' zcut0x5 ys mC c at' t nT' tl gss ha1 ha2 hl hb zcut4x2 hTk h5 oP dP base hDT Rw hx hy zcut2x1 h6 tk6 u1 rvs nR tl2 zcut0x8 zcut0x9 zcut0x10 zcut0x11 zcut0x12 zcut0x13 hg4 C2 D3 I3 h8 tk8 tl3 ovs mC8 c8 h9 tk9 hln hpos hov R hyl hat g1 g2 f tf tf2 nf g3 k1 g4 k2 d td td2 nd g5 zcut2x2 h10 tk10 tl4 fo bvs nfo R2 l hfl zcut2x3 zcut2x4 zcut2x5 zcut2x6 zcut4x3 zcut2x7 zcut2x8 zcut2x9 zcut2x10 zcut2x11 Dd h15 tk15 u2 ock v2 dvs nD tl5 R3 mDd hpo3 hpr3 hbv3 hdv3 mO mRw mF hbl hne C1 D1 I1 h1 tk1 tl1 ys1 mC1 c1 h2 h17 tk17 tl6 ro bv2 nro zcut4x4 zcut4x5 F6 zcut4x6 tk N6
  refine comp_pure2 (GlyphBy w.params) GlyphBy.mono (ML R3) gss (fun _ _ => True) (fun i vs => ∃ gs, gss[i]? = some gs ∧ Paired (GlyphBy w.params (ML R3)) vs gs) rfl (by decide) rfl (Iter.list rfl ⟨_, (N6 _ mRw).1, rfl, _, rfl⟩) F6 N6 (src_news mRw) (by rw [List.size_toArray]; exact hpr3.length) (by omega) ?_ ?_ ?_ ?_ ?_
  · intro _ _; with_unfolding_all rfl
  · rintro i bs vs' hbs ⟨gs, hgs, hv⟩
    rw [hbs] at hgs; cases hgs
    exact hv.length
  · rintro C D I i u bs nw₁ oC mC oD oI s₃ TT hP hbs F₂ N₂ nC off hsub
    obtain ⟨gs, hgs, qvs, ⟨ra, rn, rfl, hra⟩, hqv⟩ := paired_get hpr3 (by simpa using hP)
    clear F6 N6
    refine asg_name F₂ N₂ nC (offC_of TT off) TT.CL TT.C0 rfl (by with_unfolding_all rfl) (by with_unfolding_all rfl) fun oC' h' F' N' n' => ?_
    clear F₂ N₂
    k_steps
    exact SrcEnd.mk' F' N' n' hra ⟨gs, hgs, hqv⟩ trivial
  · rintro C D I i j vs' v bs b nw₁ oC mC oD oI s₃ TT hbs ⟨gs, hgs, hv⟩ hvj hbj F₂ N₂ nC - off hsub
    rw [hbs] at hgs; cases hgs
    clear F6 N6
    refine asg_name F₂ N₂ nC (offC_of TT off) TT.CL TT.C0 rfl (by with_unfolding_all rfl) (by with_unfolding_all rfl) fun oC' h' F' N' n' => ?_
    clear F₂ N₂
    k_steps
    obtain ⟨g, hg, hq⟩ := paired_get hv hvj
    obtain rfl : g = b := by rw [hbj] at hg; exact (Option.some.inj hg).symm
    exact PEndK.call (tl := []) F' N' n' (fun _ h => nomatch h) (hq.mono HU.left) trivial
  intro C2 D2 I2 h18 tk18 tl7 gvs mC2 c2 TT2 F7 N7 n7 off7 oo7 pg
  refine fin_none TT2 F7 N7 n7 off7 fun h19 F8 N8 ne8 => ?_
  have hgl : gvs.length ≤ 16 := by rw [pg.length]; omega
  clear F7 N7 n7 off7 TT2 F6 N6 ne8
  k_steps
  refine Stop.mk ?_
  rename Fr _ _ _ _ => F9
  rename News _ _ _ _ => N9
  rename _ < _ ∧ _ < _ ∧ AllLt _ (tl7 ++ R3) => l2
  obtain ⟨SD, Ev, hSD, hEv⟩ := get_top2 l2
  subst hSD hEv
  have hev := Paired.take ((l + 1).toNat - f.toNat) (Paired.drop f.toNat pg)
  rw [parts_flat] at hev
  obtain ⟨R4, N10, mSD, mEv, k8, k9⟩ := every_base N9
  have hev4 : Paired (GlyphBy w.params (ML R4)) ((gvs.drop f.toNat).take ((l + 1).toNat - f.toNat)) (parts gss f.toNat (l + 1).toNat).flatten := Paired.mono' (fun _ _ h => h.mono fun _ _ h => h.elim (fun m => k9 _ m) fun m => k8 _ m) hev
  have hcut4 : Paired (PairBy (ML R4)) ((ovs.drop f.toNat).take ((l + 1).toNat - f.toNat)) (((tagged gss).flatten.drop f.toNat).take ((l + 1).toNat - f.toNat)) := Paired.mono' (fun _ _ h => h.mono (ml_up k9)) (Paired.take _ (Paired.drop _ hpo3))
  have hbv4 : Paired (BoxBy w.params (ML R4)) bvs ((parts gss f.toNat (l + 1).toNat).filterMap bx) := Paired.mono' (fun _ _ h => h.mono (ml_up k9)) hbv3
  replace mF := k9 _ mF
  have hvl : ((gvs.drop f.toNat).take ((l + 1).toNat - f.toNat)).length ≤ 16 := by rw [List.length_take, List.length_drop]; omega
  have hlo : ((ovs.drop f.toNat).take ((l + 1).toNat - f.toNat)).length ≤ 16 := by rw [List.length_take, List.length_drop]; omega
  have hlc := hcut4.length
  clear hev pg k8 k9 N9 hpo3 hpr3 hbv3 hdv3 l2 mO mRw mDd
  refine comp_same (fun y (b : Nat × Gl) => QuadBy (ML R4) y b.2) (((tagged gss).flatten.drop f.toNat).take ((l + 1).toNat - f.toNat)) (by decide) rfl (Iter.list rfl ⟨_, (N10 _ mSD).1, rfl, _, rfl⟩) F9 N10 (src_news mSD) (by rw [List.size_toArray]; exact hlc) (by omega) ?_ ?_
  · intro C D5 I5 j u b oC mC oD oI5 s₃ TT hP hb2 F₂ N₂ nC off
    obtain ⟨b', hb', pa, pn, pt, pq, rfl, hpa, hpq⟩ := paired_get hcut4 (by simpa using hP)
    obtain rfl : b' = b := by rw [hb2] at hb'; exact (Option.some.inj hb').symm
    clear F9 N10
    refine asg_name F₂ N₂ nC (offC_of TT off) TT.CL TT.C0 rfl ?_ ?_ fun oC' h' F' N' n' => ?_
    · with_unfolding_all rfl
    · with_unfolding_all rfl
    clear F₂ N₂
    have hpt := (N' (pa, _) (.tail _ (.tail _ (.tail _ hpa)))).1
    have hit : IsTup h' pa [Value.int b'.1 pt, pq].toArray := ⟨_, hpt, rfl, pn, rfl⟩
    k_steps
    exact SEnd.mk' F' N' n' hpq
  intro C5 D5 I5 h21 tk21 ys5 mC5 c5 TT5 F5 N5 n5 off5 hys
  refine fin_none TT5 F5 N5 n5 off5 fun h22 F11 N11 ne11 => ?_
  have hyq : Paired (QuadBy (ML R4)) ys5 (parts gss f.toNat (l + 1).toNat).flatten := by rw [← cut_snd]; exact Paired.of_map hys
  have hy16 : ys5.length ≤ 16 := by rw [hys.length, ← hlc]; exact hlo
  clear F5 N5 n5 off5 TT5 F9 N10 ne11 hys hcut4 hlc hlo mSD
  k_steps
  refine Stop.mk ?_
  refine law_told_use (R := R4) (hA.mono (by decide)) F11 KX T N11 (fun q hq => .tail _ hq) ⟨D5, c5, rfl, .head _⟩ hyq hne (by omega) fun h23 tk23 t8 wb F12 N12 O12 hwb => ?_
  clear O12 hyq hy16
  k_steps
  refine Stop.mk ?_
  obtain ⟨wa, rfl⟩ : ∃ wa, wb = .ref wa := let ⟨a, _, _, _, _, _, e, _⟩ := hwb; ⟨a, e⟩
  clear F12 N12
  with_reducible refine BoolOp_and ?_
  k_steps
  refine Stop.mk ?_
  rename Fr _ _ _ _ => F13
  rename News _ _ _ _ => N13
  have hbl4 : bvs.length ≤ 500 := by rw [hbv4.length]; omega
  refine boxes_around_use (R := R4) (hA.mono (by decide)) F13 KX T N13 (fun q hq => mem_appR (.tail _ hq)) ⟨fo, nfo, rfl, mF⟩ hbv4 (boxes_ne hne) hbl4 fun h24 tk24 t9 r1 F14 N14 O14 hr1 => ?_
  rw [box_around_parts _ hne] at hr1
  clear F13 N13 O14
  k_steps
  refine Stop.mk ?_
  refine box_told_use (hA.mono (by decide)) F14 KX T N14 (ml_at N14 fun _ h => h) hr1 fun h25 tk25 t10 r2 F15 N15 O15 hr2 => ?_
  obtain ⟨ra2, rfl⟩ : ∃ wa, r2 = .ref wa := let ⟨a, _, _, _, _, _, e, _⟩ := hr2; ⟨a, e⟩
  clear F14 N14 O15
  k_steps
  refine Stop.mk ?_
  refine eq_box (ml_at N15 fun q hq => mem_appL hq) (ml_at N15 fun q hq => mem_appR (mem_appR (mem_appL hq))) hr2 hwb hA.eqs ?_
  k_steps
  refine Stop.mk ?_
  with_reducible refine BoolOp_one ?_
  k_steps
  refine Stop.mk ?_
  rename Fr _ _ _ _ => F16
  rename News _ _ _ _ => N16
  refine box_of_use (R := R4) (hA.mono (by decide)) F16 KX T N16 (fun q hq => mem_appR (mem_appR (mem_appR (.tail _ hq)))) ⟨Ev, 0, rfl, mem_appR (mem_appR (mem_appR (.tail _ mEv)))⟩ hev4 hne (by omega) fun h26 tk26 t11 r3 F17 N17 O17 hr3 => ?_
  clear F16 N16 O17
  k_steps
  refine Stop.mk ?_
  refine box_told_use (hA.mono (by decide)) F17 KX T N17 (ml_at N17 fun _ h => h) hr3 fun h27 tk27 t12 r4 F18 N18 O18 hr4 => ?_
  obtain ⟨ra4, rfl⟩ : ∃ wa, r4 = .ref wa := let ⟨a, _, _, _, _, _, e, _⟩ := hr4; ⟨a, e⟩
  clear F17 N17 O18
  k_steps
  refine Stop.mk ?_
  refine eq_box (ml_at N18 fun q hq => mem_appL hq) (ml_at N18 fun q hq => mem_appR (mem_appR (mem_appR (mem_appR (mem_appL hq))))) hr4 hwb hA.eqs ?_
  k_steps
end Mine
theorem PySem.Challenge.cw_og0152_01_holds : PySem.Challenge.rw_og0152_01.Holds :=
  Mine.cut0.2 ⟨Mine.cut1.2 ⟨Mine.cut2.2 ⟨Mine.cut3.2 ⟨Mine.cut4.2 ⟨Mine.lastPart⟩⟩⟩⟩⟩
