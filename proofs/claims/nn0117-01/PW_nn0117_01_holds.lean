import PyProof.Rows.All
import Wide.All
import OpenK.AllK
import Wide.FinOn
import PySem.Challenge.RW_nn0117_01
open PySem PySem.W PyProof.Rows PySem.Calls
set_option Elab.async false
set_option maxRecDepth 100000
namespace Nn
-- p00_head
theorem left_of {p q : Program} {loose : List Str} {Xt : Shared → Bool} {α : Type} {Yf : Shared → α} {Ya : World → α} {N : Nat}
    (e : opening p = plainProg p.main.scope.names) (hN : Nat.ble 600 N = true) (f : ∀ s, fenceModules? p s = some s)
    (h : ∀ (w : World) (os : OsState), (topFrom treeTable p w N ⟨boot_heap w.params, Array.mk [], boot_drawn, boot_toks, os⟩).map (fun s => (openSeen q loose (importedModules p.main.body) Xt true s, Yf s)) = some (openGood q loose, Ya w)) :
    LeftO p q loose Xt Yf Ya N := fun w => by
  obtain ⟨s, e1, e2⟩ := Option.map_eq_some_iff.mp (boot_open e hN f w)
  obtain ⟨hp, gs, d, k, os⟩ := s
  obtain ⟨rfl, rfl, rfl, rfl⟩ : hp = boot_heap w.params ∧ gs = Array.mk [] ∧ d = boot_drawn ∧ k = boot_toks := by simpa using e2
  unfold openEnds
  rw [e1]
  exact h w os
theorem map_two {α β γ : Type} {x : Option α} {f : α → β} {g : α → γ} {b : β} {c : γ} (h1 : x.map f = some b) (h2 : x.map g = some c) : x.map (fun s => (f s, g s)) = some (b, c) := by
  obtain ⟨s, rfl, rfl⟩ := Option.map_eq_some_iff.mp h1
  obtain ⟨s', e, rfl⟩ := Option.map_eq_some_iff.mp h2
  cases e
  rfl
theorem op1 : opening PySem.Challenge.rw_nn0117_01.row.prog = plainProg PySem.Challenge.rw_nn0117_01.row.prog.main.scope.names := rfl
theorem op2 : ∀ s, fenceModules? PySem.Challenge.rw_nn0117_01.row.prog s = some s := fun _ => rfl
/-- the text without its four namings -/
def view : Program := PySem.W.view PySem.Challenge.rw_nn0117_01.row.prog [0, 2, 3, 5, 6, 7, 8, 9, 10, 12, 13, 15, 16, 17, 18, 19, 20, 21, 22, 23, 24]
noncomputable def finB (h : Heap) (w : World) (os : OsState) : Option Shared := topFrom treeTable PySem.Challenge.pw_nn0117_01 w 3344 ⟨h, Array.mk [], boot_drawn, boot_toks, os⟩
def topX (s : Shared) : Bool := xlAt view [] s && recOk (RowW.records (OpenRow.toRowW PySem.Challenge.rw_nn0117_01.row)) s
noncomputable def seenL (h : Heap) (w : World) (os : OsState) := (finB h w os).map fun s => openSeen view [PySem.Str.ofString "PaperError"] (importedModules PySem.Challenge.pw_nn0117_01.main.body) topX true s
noncomputable def seenR := some (openGood view [PySem.Str.ofString "PaperError"])
lay_quick Nn.finB Nn.seenL Nn.seenR
theorem seen_fast (w : World) (os : OsState) : PySem.W.Fast.tw5047000277532700535 (boot_heap w.params) w os = PySem.W.Fast.tw11861396451990477885 := by kernel_rfl
theorem seen_all (w : World) (os : OsState) : seenL (boot_heap w.params) w os = seenR := by
  rw [PySem.W.Fast.te5047000277532700535, PySem.W.Fast.te11861396451990477885]
  exact seen_fast w os
open Lean in
local macro_rules | `(tactic| o_head $H) => do
  let (hl, hw, hc) := (mkIdent `hl, mkIdent `hw, mkIdent `hc)
  `(tactic| (refine holds_open (q := view) (loose := [PySem.Str.ofString "PaperError"]) (Xt := topX) (XP := XL view []) (Yf := Hook.obs $H) (Ya := Hook.val $H) (YP := Hook.says $H) (N := 3344) ?$hl (Hook.of $H) (Hook.keeps $H) (fun s e => xl_of s (Bool.and_eq_true_iff.mp e).1) XL.keeps (by rfl) (by rfl) (by rfl) (fun s e => recFacts_of (Bool.and_eq_true_iff.mp e).2) (by rfl) (by first | assumption | decide +kernel) (by decide +kernel) ⟨rfl, rfl, rfl, rfl, rfl, by decide +kernel⟩ ?$hw ?$hc; (case hl => exact left_of op1 (by decide) op2 (fun w os => map_two (seen_all w os) (by show (finB (boot_heap w.params) w os).map _ = _; rw [PySem.W.Fast.te18004495508925730200]; kernel_rfl)))))
set_option maxHeartbeats 8000000 in
open_top hd for PySem.Challenge.rw_nn0117_01

local macro_rules | `(tactic| walk_at $s:str) => `(tactic| k_extra $s)
local macro_rules | `(tactic| k_inst) => `(tactic| k_extra "own inst")
local macro_rules | `(tactic| ktr_room) => `(tactic| k_extra "room")
local macro_rules | `(tactic| ktr_units) => `(tactic| k_extra "units")
-- p01_base
/-- all objects of h stand in h' as they are -/
def Keep (h h' : Heap) : Prop := ∀ b o, h.get? b = some o → h'.get? b = some o
theorem Keep.refl (h : Heap) : Keep h h := fun _ _ e => e
theorem Keep.trans {a b c : Heap} (x : Keep a b) (y : Keep b c) : Keep a c := fun i o e => y i o (x i o e)
theorem Keep.none {g h : Heap} (k : Keep g h) {b : Addr} (e : h.get? b = none) : g.get? b = none := by
  cases q : g.get? b with
  | none => rfl
  | some o => have := k b o q; rw [e] at this; cases this

section
variable {prog : Program} {w : World} {A : Around} {E : Value → Shared → Prop} {s : Shared} {K : Frag} {p : Program} {loose : List Str} {mean : ExcName → Option Value} {mg mb : Str → Option Value}

/-- a def of the top is entered: g is what the body must keep, news what it may change -/
theorem enterG {R : Result → Shared → Prop} {name qual : Str} {params : Arguments} {body : List Stmt} {scope : Scope} {dV kV doc pm cdv ct oc : Value} {an od : Option Addr} {osl : Array (Option Value)} {f : Addr} {vs : List Value} {binds : List (Str × Value)}
    (g : Heap) (news : List (Addr × Obj)) (hg : Keep g s.heap) (hsz : g.objs.size ≤ s.heap.objs.size) (hn : ∀ q ∈ news, s.heap.get? q.1 = some q.2 ∧ g.get? q.1 = none)
    (X : K.In g) (T : Top p loose mean mg mb g)
    (ho : K.lookup f = some ⟨oc, od, .func (fnOf name qual params body scope dV kV doc pm an cdv ct), osl⟩) (hcd : codeIn K cdv qual = true) (hroom : A.depth < recursionLimit)
    (hbind : BindsTo s (fnOf name qual params body scope dV kV doc pm an cdv ct) ⟨vs, []⟩ binds) (hloc : ∀ y ∈ binds, scope.names.lookup y.1 = some .local)
    (h : ∀ L' h₁, Fr g L' h₁ (fun y => binds.reverse.lookup y) → News g L' h₁ news → (∀ q ∈ news, q.1 < L') →
      wpAny (model prog w) (A.deeper (envOf qual scope L' f cdv)) (execs body (envOf qual scope L' f cdv))
        (fun fl s' => R (.ok (.ret (match fl with | .ret v => v | _ => .none))) s') (fun _ _ => False)
        { s with heap := h₁, toks := s.toks + binds.length })
    (hcell : ∀ x ∈ scope.names, x.2 ≠ .cell) (hco : scope.isCoroutine = false := by rfl) (hgen : scope.isGenerator = false := by rfl) (hk : scope.kind = .function := by rfl) :
    codeAny (model prog w) A (.call (.ref f) ⟨vs, []⟩) R s := by
  refine codeAny_call_def (fd := fnOf name qual params body scope dV kV doc pm an cdv ct) (body := body) (binds := binds) hroom ((X.keeps hg) _ _ ho) rfl (T.keeps hg).nolimit (codeRec_of (X.keeps hg) hcd) rfl hbind hcell hloc (fun h₁ hns hk₁ => ?_) hco hgen hk
  exact wpAny_mono (h s.heap.objs.size h₁ ⟨hns, fun b o e => hk₁ b o (hg b o e), hsz⟩
    (fun q hq => ⟨hk₁ _ _ (hn q hq).1, Nat.ne_of_lt (Heap.lt_size (hn q hq).1), (hn q hq).2⟩) (fun q hq => Heap.lt_size (hn q hq).1)) (fun _ _ x => x) fun _ _ x => x.elim

theorem enterP {Q : Value → Shared → Prop} {name qual : Str} {params : Arguments} {body : List Stmt} {scope : Scope} {dV kV doc pm cdv ct oc : Value} {an od : Option Addr} {osl : Array (Option Value)} {f : Addr} {vs : List Value} {binds : List (Str × Value)}
    (X : K.In s.heap) (T : Top p loose mean mg mb s.heap)
    (ho : K.lookup f = some ⟨oc, od, .func (fnOf name qual params body scope dV kV doc pm an cdv ct), osl⟩) (hcd : codeIn K cdv qual = true) (hroom : A.depth < recursionLimit)
    (hbind : BindsTo s (fnOf name qual params body scope dV kV doc pm an cdv ct) ⟨vs, []⟩ binds) (hloc : ∀ y ∈ binds, scope.names.lookup y.1 = some .local)
    (h : ∀ L' h₁, Fr s.heap L' h₁ (fun y => binds.reverse.lookup y) → News s.heap L' h₁ [] →
      wpAny (model prog w) (A.deeper (envOf qual scope L' f cdv)) (execs body (envOf qual scope L' f cdv))
        (fun fl s' => Q (match fl with | .ret v => v | _ => .none) s') (fun _ _ => False)
        { s with heap := h₁, toks := s.toks + binds.length })
    (hcell : ∀ x ∈ scope.names, x.2 ≠ .cell) (hco : scope.isCoroutine = false := by rfl) (hgen : scope.isGenerator = false := by rfl) (hk : scope.kind = .function := by rfl) :
    wpAny (model prog w) A (call (.ref f) vs) Q E s :=
  wpAny_call (enterG s.heap [] (Keep.refl _) (Nat.le_refl _) (fun _ h => nomatch h) X T ho hcd hroom hbind hloc (fun L' h₁ F N _ => h L' h₁ F N) hcell hco hgen hk)
end

/-- the dict of a Decimal -/
abbrev decD (w : World) (k1 : Tok) (t : Int) (τ1 k2 : Tok) (p : Int) (τ2 : Tok) : Obj :=
  dictOf [⟨PyData.keyHash w.params (Str.ofString "top"), .str (Str.ofString "top") k1, .int t τ1⟩, ⟨PyData.keyHash w.params (Str.ofString "places"), .str (Str.ofString "places") k2, .int p τ2⟩] 2

/-- a Decimal of top t and p places stands at x, its dict at dx -/
structure DecO (w : World) (h : Heap) (x dx : Addr) (k1 : Tok) (t : Int) (τ1 k2 : Tok) (p : Int) (τ2 : Tok) : Prop where
  inst : h.get? x = some (instObj 155 dx)
  dict : h.get? dx = some (decD w k1 t τ1 k2 p τ2)
theorem DecO.keeps {w h h' x dx k1 t τ1 k2 p τ2} (D : DecO w h x dx k1 t τ1 k2 p τ2) (k : Keep h h') : DecO w h' x dx k1 t τ1 k2 p τ2 := ⟨k _ _ D.inst, k _ _ D.dict⟩
theorem DecO.at {w h x dx k1 t τ1 k2 p τ2} (D : DecO w h x dx k1 t τ1 k2 p τ2) : InstAt h x (instObj 155 dx) 155 (some (decD w k1 t τ1 k2 p τ2)) := ⟨D.inst, rfl, rfl, D.dict⟩
def Dec (w : World) (h : Heap) (x : Addr) (t p : Int) : Prop := ∃ dx k1 τ1 k2 τ2, DecO w h x dx k1 t τ1 k2 p τ2
theorem Dec.keeps {w h h' x t p} (D : Dec w h x t p) (k : Keep h h') : Dec w h' x t p := let ⟨dx, a, b, c, d, D⟩ := D; ⟨dx, a, b, c, d, D.keeps k⟩
/-- a new one: neither object lies in g -/
def DecNew (w : World) (g : Heap) (h : Heap) (x : Addr) (t p : Int) : Prop := ∃ dx k1 τ1 k2 τ2, DecO w h x dx k1 t τ1 k2 p τ2 ∧ g.get? x = none ∧ g.get? dx = none
theorem DecNew.dec {w g h x t p} (D : DecNew w g h x t p) : Dec w h x t p := let ⟨dx, a, b, c, d, D, _⟩ := D; ⟨dx, a, b, c, d, D⟩

noncomputable def AllNe (d : Nat) : List (Addr × Obj) → Prop
  | [] => True
  | p :: r => (@Ne Nat p.1 d) ∧ AllNe d r
theorem allNe_of {d : Addr} : ∀ {l : List (Addr × Obj)}, (∀ p ∈ l, p.1 ≠ d) → AllNe d l
  | [], _ => trivial
  | p :: _, h => ⟨h p (.head _), allNe_of fun q hq => h q (.tail _ hq)⟩
theorem AllNe.out {d : Addr} : ∀ {l : List (Addr × Obj)}, AllNe d l → ∀ p ∈ l, p.1 ≠ d
  | [], _, _, h => nomatch h
  | _ :: _, x, p, h => by
    rcases List.mem_cons.mp h with rfl | h
    · exact x.1
    · exact AllNe.out x.2 p h
theorem addrNe {a b : Addr} (h : a ≠ b) : @Ne Nat a b := h

section
variable {w : World} {h₀ : Heap} {L : Addr} {m : Str → Option Value} {news : List (Addr × Obj)}
theorem fresh_of {h : Heap} (F : Fr h₀ L h m) {b : Addr} (e : h.get? b = none) : b ≠ L ∧ h₀.get? b = none := by
  obtain ⟨oL, _, _, hL, _⟩ := F.ns
  exact ⟨fun q => (by rw [q, hL] at e; cases e), Keep.none F.keep e⟩
theorem news_ne {h : Heap} (N : News h₀ L h news) {b : Addr} (e : h.get? b = none) : ∀ q ∈ news, q.1 ≠ b := fun q hq z => by
  have := (N q hq).1
  rw [z, e] at this; cases this
theorem news_two {h h' : Heap} {x dx : Addr} {o1 o2 : Obj} (F : Fr h₀ L h m) (N : News h₀ L h news) (k : Keep h h') (e1 : h'.get? x = some o1) (e2 : h'.get? dx = some o2) (h1 : h.get? x = none) (h2 : h.get? dx = none) :
    News h₀ L h' ((x, o1) :: (dx, o2) :: news) := by
  intro q hq
  rcases List.mem_cons.mp hq with rfl | hq
  · exact ⟨e1, fresh_of F h1⟩
  · rcases List.mem_cons.mp hq with rfl | hq
    · exact ⟨e2, fresh_of F h2⟩
    · exact ⟨k _ _ (N q hq).1, (N q hq).2⟩
theorem news_dec {h h' : Heap} {x dx : Addr} {k1 τ1 k2 τ2 : Tok} {t p : Int} (F : Fr h₀ L h m) (N : News h₀ L h news) (k : Keep h h') (D : DecO w h' x dx k1 t τ1 k2 p τ2) (h1 : h.get? x = none) (h2 : h.get? dx = none) :
    News h₀ L h' ((x, instObj 155 dx) :: (dx, decD w k1 t τ1 k2 p τ2) :: news) := news_two F N k D.inst D.dict h1 h2
theorem cls_ne {h : Heap} {x dx : Addr} {o1 o2 : Obj} (e1 : h.get? x = some o1) (e2 : h.get? dx = some o2) (h12 : o1.cls ≠ o2.cls) : dx ≠ x := fun q => by
  subst q
  rw [e1] at e2
  exact h12 (congrArg Obj.cls (Option.some.inj e2))
theorem DecO.ne {h : Heap} {x dx : Addr} {k1 τ1 k2 τ2 : Tok} {t p : Int} (D : DecO w h x dx k1 t τ1 k2 p τ2) : dx ≠ x := cls_ne D.inst D.dict (fun e => nomatch (show Value.ref 155 = Value.type "dict" from e))
theorem DecO.ofNews {h : Heap} {x dx : Addr} {k1 τ1 k2 τ2 : Tok} {t p : Int} (N : News h₀ L h news) (m1 : (x, instObj 155 dx) ∈ news) (m2 : (dx, decD w k1 t τ1 k2 p τ2) ∈ news) : DecO w h x dx k1 t τ1 k2 p τ2 := ⟨(N _ m1).1, (N _ m2).1⟩
theorem DecNew.ofNews {h : Heap} {x dx : Addr} {k1 τ1 k2 τ2 : Tok} {t p : Int} (N : News h₀ L h news) (m1 : (x, instObj 155 dx) ∈ news) (m2 : (dx, decD w k1 t τ1 k2 p τ2) ∈ news) : DecNew w h₀ h x t p :=
  ⟨_, _, _, _, _, DecO.ofNews N m1 m2, (N _ m1).2.2, (N _ m2).2.2⟩
end
theorem roomD {A : Around} {k j : Nat} {e : Env} (h : A.depth + k < recursionLimit) (hj : j + 1 ≤ k) : (A.deeper e).depth + j < recursionLimit := by rw [depth_deeper]; omega
theorem room0 {A : Around} {k : Nat} (h : A.depth + k < recursionLimit) : A.depth < recursionLimit := by omega
theorem room1 {A : Around} {k : Nat} {e : Env} (h : A.depth + k < recursionLimit) (hj : 1 ≤ k) : (A.deeper e).depth < recursionLimit := roomD (j := 0) (e := e) h hj
theorem roomL {A : Around} {k j : Nat} (h : A.depth + k < recursionLimit) (hj : j ≤ k) : A.depth + j < recursionLimit := by omega
theorem unitD {A : Around} {k j : Nat} {e : Env} (h : A.units + k < cLine) (hj : j + 3 ≤ k) : (A.deeper e).units + j < cLine := by rw [units_deeper]; omega
theorem unit1 {A : Around} {k : Nat} {e : Env} (h : A.units + k < cLine) (hj : 3 ≤ k) : (A.deeper e).units < cLine := unitD (j := 0) (e := e) h hj
theorem unitL {A : Around} {k j : Nat} (h : A.units + k < cLine) (hj : j ≤ k) : A.units + j < cLine := by omega
theorem line_p01_1 : True := by
  (k_with "room" => (first | exact roomD (by with_reducible assumption) (Nat.le_of_ble_eq_true rfl) | exact room0 (by with_reducible assumption) | exact room1 (by with_reducible assumption) (Nat.le_of_ble_eq_true rfl) | exact roomL (by with_reducible assumption) (Nat.le_of_ble_eq_true rfl)))
  trivial
theorem line_p01_2 : True := by
  (k_with "units" => (first | exact unitD (by with_reducible assumption) (Nat.le_of_ble_eq_true rfl) | exact unit1 (by with_reducible assumption) (Nat.le_of_ble_eq_true rfl) | exact unitL (by with_reducible assumption) (Nat.le_of_ble_eq_true rfl)))
  trivial

-- p02_dec
/-- top t and places p tell the tenths v, in lowest terms -/
def TV (t p v : Int) : Prop := (p = 0 ∧ v = 10 * t) ∨ (p = 1 ∧ v = t ∧ t % 10 ≠ 0)
theorem TV.places {t p v : Int} (h : TV t p v) : p = 0 ∨ p = 1 := h.elim (fun h => .inl h.1) (fun h => .inr h.1)

theorem norm_down {t p k : Int} (hp : p = 0 ∨ p = 1) (h1 : k ≤ p) (h2 : min p 0 ≤ k)
    (h3 : ∀ j : Int, k < j → j ≤ p → (if 0 < j then if ((accDown (fun k x => x.fdiv 10) p t j).fmod 10 == 0) = true then true else false else false) = true)
    (h4 : (if 0 < k then if ((accDown (fun k x => x.fdiv 10) p t k).fmod 10 == 0) = true then true else false else false) = false) :
    TV (accDown (fun k x => x.fdiv 10) p t k) k (if p = 0 then 10 * t else t) := by
  rcases hp with rfl | rfl
  · obtain rfl : k = 0 := by omega
    rw [accDown_start]; exact .inl ⟨rfl, by simp⟩
  · have : k = 0 ∨ k = 1 := by omega
    rcases this with rfl | rfl
    · have h := h3 1 (by decide) (by decide)
      rw [accDown_start] at h
      have e := accDown_succ (g := fun (k x : Int) => x.fdiv 10) (k₀ := 1) (k := 1) (x₀ := t) (by decide)
      rw [accDown_start] at e
      have e' : accDown (fun (k x : Int) => x.fdiv 10) 1 t 0 = t.fdiv 10 := e
      rw [e']
      have h' : t.fmod 10 = 0 := by
        rw [if_pos (by decide)] at h
        by_cases q : (t.fmod 10 == 0) = true
        · exact beq_iff_eq.mp q
        · rw [if_neg q] at h; cases h
      refine .inl ⟨rfl, ?_⟩
      rw [if_neg (by decide)]
      rw [Int.fmod_eq_emod_of_nonneg _ (by decide)] at h'
      rw [Int.fdiv_eq_ediv_of_nonneg _ (by decide)]
      omega
    · rw [accDown_start] at h4 ⊢
      rw [if_pos (by decide)] at h4
      refine .inr ⟨rfl, by simp, fun q => ?_⟩
      rw [Int.fmod_eq_emod_of_nonneg _ (by decide), q] at h4
      cases h4

section
variable {w : World} {mean : ExcName → Option Value} {mg mb : Str → Option Value} {A : Around} {s : Shared} {Q E : Value → Shared → Prop}

set_option maxHeartbeats 4000000 in
theorem c_new {t p : Int} {τ σ : Tok} (X : (hd.heap_39 w.params).In s.heap) (T : Top view (looseW view [Str.ofString "PaperError"]) mean mg mb s.heap)
    (hp : p = 0 ∨ p = 1) (hh : A.handled = none) (hdp : A.depth + 3 < recursionLimit) (hun : A.units + 40 < cLine)
    (ret : ∀ x h' tk' t' p', TV t' p' (if p = 0 then 10 * t else t) → Keep s.heap h' → DecNew w s.heap h' x t' p' → Q (.ref x) { s with heap := h', toks := tk' }) :
    wpAny (model PySem.Challenge.rw_nn0117_01.row.prog w) A (call (.ref 155) [.int t τ, .int p σ]) Q E s := by
  (revert X; k_fill; intro X)
  obtain ⟨_, dp, fr, gd, un⟩ := A
  obtain rfl : _ = none := hh
  refine wpAny_call ?_
  obtain ⟨hh, g, d, tk, os⟩ := s
  refine make_core (makes_of X (by k_is)) (init := .ref 75) (looks_findIn X (by k_is)) (fun self => bind_fn X self (by k_is)) (.inl rfl) ?_
  refine enterG hh [(hh.objs.size + 1, instObj 155 hh.objs.size), (hh.objs.size, emptyDict)] (fun b o e => Heap.get?_push_of_some _ (Heap.get?_push_of_some _ e)) ?_ ?_ X T (by k_is) (by k_is) ?_ (binds := [(Str.ofString "self", .ref (hh.objs.size + 1)), (Str.ofString "top", .int t τ), (Str.ofString "places", .int p σ)]) (BindsTo.of_eq rfl) (locs rfl) ?_ (by decide) rfl rfl rfl
  · show hh.objs.size ≤ ((hh.push _).push _).objs.size
    rw [Heap.size_push, Heap.size_push]; omega
  · intro q hq
    have h1 := Heap.get?_push_of_some (instObj 155 hh.objs.size) (Heap.get?_push_size hh (o := emptyDict) rfl)
    have h2 := Heap.get?_push_size (hh.push emptyDict) (o := instObj 155 hh.objs.size) rfl
    rw [Heap.size_push] at h2
    rcases List.mem_cons.mp hq with rfl | hq
    · exact ⟨h2, Heap.get?_none_of_le (Nat.le_succ _)⟩
    · obtain rfl := List.mem_singleton.mp hq
      exact ⟨h1, Heap.get?_none_of_le (Nat.le_refl _)⟩
  · ktr_room
  intro L' h' F' N' l1
  (try k_lt l1)
  try dsimp only
  try k_fold
  k_steps
  rename_i k t' u' h2 tk2 a4 a3 a2 a1 a0 h1 h' F' N'
  refine ⟨rfl, ret _ _ _ _ _ (norm_down hp a4 a3 a2 a1) F'.keep (DecNew.ofNews N' (.head _) (.tail _ (.head _)))⟩
end

-- p03_one
section
variable {w : World} {mean : ExcName → Option Value} {mg mb : Str → Option Value} {A : Around} {s : Shared} {Q E : Value → Shared → Prop} {h₀ : Heap} {L : Addr} {m : Str → Option Value} {news : List (Addr × Obj)}

theorem k_new {t p : Int} {τ σ : Tok} (F : Fr h₀ L s.heap m) (X : (hd.heap_39 w.params).In h₀) (T : Top view (looseW view [Str.ofString "PaperError"]) mean mg mb h₀) (N : News h₀ L s.heap news)
    (hp : p = 0 ∨ p = 1) (hh : A.handled = none) (hdp : A.depth + 3 < recursionLimit) (hun : A.units + 40 < cLine)
    (ret : ∀ x dx k1 t' τ1 k2 p' τ2 h' tk', TV t' p' (if p = 0 then 10 * t else t) → Keep s.heap h' → Fr h₀ L h' m → News h₀ L h' ((x, instObj 155 dx) :: (dx, decD w k1 t' τ1 k2 p' τ2) :: news) → (∀ q ∈ news, q.1 ≠ dx) → (∀ q ∈ news, q.1 ≠ x) → @Ne Nat dx x → Q (.ref x) { s with heap := h', toks := tk' }) :
    wpAny (model PySem.Challenge.rw_nn0117_01.row.prog w) A (call (.ref 155) [.int t τ, .int p σ]) Q E s :=
  c_new (X.keeps F.keep) (T.keeps F.keep) hp hh hdp hun fun _ h' tk' _ _ hv k ⟨_, _, _, _, _, D, h1, h2⟩ =>
    ret _ _ _ _ _ _ _ _ h' tk' hv k (F.keeps k) (news_dec F N k D h1 h2) (news_ne N h2) (news_ne N h1) D.ne
end

theorem line_p03_1 : True := by
  (k_with "call ref" => (k_here; (with_reducible show wpAny _ _ (call (Value.ref 155) _) _ _ _); k_dflt (refine' k_new ?zqF ?zqX ?zqT ?zqN ?zqhp ?zqhh ?zqhd ?zqhu ?_; (case zqF => k_asm); (case zqX => k_asm); (case zqT => k_asm); (case zqN => k_asm); (case zqhp => omega); (case zqhh => rfl); (case zqhd => ktr_room); (case zqhu => ktr_units); k_whole); intro x' dx' k1' t' τ1' k2' p' τ2' h' tk' hv' kk' F' N' l1 l2 l3; (replace l1 := allNe_of l1); (replace l2 := allNe_of l2); (simp only [AllNe, and_true] at l1 l2); (try k_sweep)))
  trivial

theorem line_p03_2 : True := by
  (k_with "own inst" => (refine' DecO.at (DecO.keeps ?zqD ?zqk); (case zqD => with_reducible assumption); (case zqk => first | exact Fr.keep (by k_asm) | exact Keep.refl _)))
  trivial

section
variable {w : World} {mean : ExcName → Option Value} {mg mb : Str → Option Value} {A : Around} {s : Shared} {Q E : Value → Shared → Prop}

set_option maxHeartbeats 4000000 in
theorem c_of_int {n : Int} {τ : Tok} (X : (hd.heap_39 w.params).In s.heap) (T : Top view (looseW view [Str.ofString "PaperError"]) mean mg mb s.heap)
    (hh : A.handled = none) (hdp : A.depth + 5 < recursionLimit) (hun : A.units + 60 < cLine)
    (ret : ∀ x h' tk' t' p', TV t' p' (10 * n) → Keep s.heap h' → DecNew w s.heap h' x t' p' → Q (.ref x) { s with heap := h', toks := tk' }) :
    wpAny (model PySem.Challenge.rw_nn0117_01.row.prog w) A (call (.ref 173) [.int n τ]) Q E s := by
  (revert X; k_fill; intro X)
  obtain ⟨_, dp, fr, gd, un⟩ := A
  obtain rfl : _ = none := hh
  refine enterP X T (by k_is) (by k_is) (by ktr_room) (binds := [(Str.ofString "value", .int n τ)]) (BindsTo.of_eq rfl) (locs rfl) ?_ (by decide) rfl rfl rfl
  intro L' h' F' N'
  try dsimp only
  try k_fold
  k_steps
  exact ret _ _ _ _ _ (by assumption) (Fr.keep (by k_asm)) (DecNew.ofNews (by k_asm) (.head _) (.tail _ (.head _)))

set_option maxHeartbeats 4000000 in
theorem c_of_dec {x dx : Addr} {k1 t τ1 k2 p τ2} (X : (hd.heap_39 w.params).In s.heap) (T : Top view (looseW view [Str.ofString "PaperError"]) mean mg mb s.heap)
    (D : DecO w s.heap x dx k1 t τ1 k2 p τ2)
    (hh : A.handled = none) (hdp : A.depth + 5 < recursionLimit) (hun : A.units + 60 < cLine)
    (ret : ∀ h' tk', Keep s.heap h' → Q (.ref x) { s with heap := h', toks := tk' }) :
    wpAny (model PySem.Challenge.rw_nn0117_01.row.prog w) A (call (.ref 173) [.ref x]) Q E s := by
  (revert X; k_fill; intro X)
  obtain ⟨_, dp, fr, gd, un⟩ := A
  obtain rfl : _ = none := hh
  refine enterP X T (by k_is) (by k_is) (by ktr_room) (binds := [(Str.ofString "value", .ref x)]) (BindsTo.of_eq rfl) (locs rfl) ?_ (by decide) rfl rfl rfl
  intro L' h' F' N'
  try dsimp only
  try k_fold
  k_steps
  exact ret _ _ F'.keep
end

section
variable {w : World} {mean : ExcName → Option Value} {mg mb : Str → Option Value} {A : Around} {s : Shared} {Q E : Value → Shared → Prop} {h₀ : Heap} {L : Addr} {m : Str → Option Value} {news : List (Addr × Obj)}
theorem k_of_int {n : Int} {τ : Tok} (F : Fr h₀ L s.heap m) (X : (hd.heap_39 w.params).In h₀) (T : Top view (looseW view [Str.ofString "PaperError"]) mean mg mb h₀) (N : News h₀ L s.heap news)
    (hh : A.handled = none) (hdp : A.depth + 5 < recursionLimit) (hun : A.units + 60 < cLine)
    (ret : ∀ x dx k1 t' τ1 k2 p' τ2 h' tk', TV t' p' (10 * n) → Keep s.heap h' → Fr h₀ L h' m → News h₀ L h' ((x, instObj 155 dx) :: (dx, decD w k1 t' τ1 k2 p' τ2) :: news) → (∀ q ∈ news, q.1 ≠ dx) → (∀ q ∈ news, q.1 ≠ x) → @Ne Nat dx x → Q (.ref x) { s with heap := h', toks := tk' }) :
    wpAny (model PySem.Challenge.rw_nn0117_01.row.prog w) A (call (.ref 173) [.int n τ]) Q E s :=
  c_of_int (X.keeps F.keep) (T.keeps F.keep) hh hdp hun fun _ h' tk' _ _ hv k ⟨_, _, _, _, _, D, h1, h2⟩ =>
    ret _ _ _ _ _ _ _ _ h' tk' hv k (F.keeps k) (news_dec F N k D h1 h2) (news_ne N h2) (news_ne N h1) D.ne
theorem k_of_dec {x dx : Addr} {C : Addr} {od : Obj} {ox : Obj} {k1 t τ1 k2 p τ2} (F : Fr h₀ L s.heap m) (X : (hd.heap_39 w.params).In h₀) (T : Top view (looseW view [Str.ofString "PaperError"]) mean mg mb h₀) (N : News h₀ L s.heap news)
    (I : InstAt s.heap x ox C (some od)) (e1 : ox = instObj 155 dx) (e2 : od = decD w k1 t τ1 k2 p τ2)
    (hh : A.handled = none) (hdp : A.depth + 5 < recursionLimit) (hun : A.units + 60 < cLine)
    (ret : ∀ h' tk', Fr h₀ L h' m → News h₀ L h' news → Q (.ref x) { s with heap := h', toks := tk' }) :
    wpAny (model PySem.Challenge.rw_nn0117_01.row.prog w) A (call (.ref 173) [.ref x]) Q E s := by
  subst e1 e2
  exact c_of_dec (X.keeps F.keep) (T.keeps F.keep) ⟨I.at_, I.dict⟩ hh hdp hun fun h' tk' k => ret h' tk' (F.keeps k) (N.keepsAll k)
end

theorem line_p03_3 : True := by
  (k_with "call ref" => (k_here; (with_reducible show wpAny _ _ (call (Value.ref 173) [Value.int _ _]) _ _ _); k_dflt (refine' k_of_int ?zqF ?zqX ?zqT ?zqN ?zqhh ?zqhd ?zqhu ?_; (case zqF => k_asm); (case zqX => k_asm); (case zqT => k_asm); (case zqN => k_asm); (case zqhh => rfl); (case zqhd => ktr_room); (case zqhu => ktr_units); k_whole); intro x' dx' k1' t' τ1' k2' p' τ2' h' tk' hv' kk' F' N' l1 l2 l3; (replace l1 := allNe_of l1); (replace l2 := allNe_of l2); (simp only [AllNe, and_true] at l1 l2); (try k_sweep)))
  trivial
theorem line_p03_4 : True := by
  (k_with "call ref" => (k_here; (with_reducible show wpAny _ _ (call (Value.ref 173) [Value.ref _]) _ _ _); k_dflt (refine' k_of_dec ?zqF ?zqX ?zqT ?zqN ?zqI ?zqe1 ?zqe2 ?zqhh ?zqhd ?zqhu ?_; (case zqF => k_asm); (case zqX => k_asm); (case zqT => k_asm); (case zqN => k_asm); (case zqI => k_inst); (case zqe1 => rfl); (case zqe2 => rfl); (case zqhh => rfl); (case zqhd => ktr_room); (case zqhu => ktr_units); k_whole); intro h' tk' F' N'; (try k_sweep)))
  trivial

-- p04_scale
section
variable {prog : Program} {w : World} {A : Around} {E : Value → Shared → Prop} {s : Shared} {Q : Value → Shared → Prop} {n : Int} {t u : Tok}
theorem pow10 (h0 : 0 ≤ n) (h1 : n ≤ 1000000) (h : Q (.int (10 ^ n.toNat) s.toks) { s with toks := s.toks + 1 }) : wpAny (model prog w) A (binaryOp .Pow (.int 10 t) (.int n u)) Q E s :=
  pow_int_small h0 h1 (by decide) h
theorem pow10_any (e : n = 0 ∨ n = 1) (h : ∀ z t', (n = 0 ∧ z = 1) ∨ (n = 1 ∧ z = 10) → Q (.int z t') { s with toks := s.toks + 1 }) : wpAny (model prog w) A (binaryOp .Pow (.int 10 t) (.int n u)) Q E s := by
  rcases e with rfl | rfl
  · exact pow10 (by decide) (by decide) (h _ _ (.inl ⟨rfl, rfl⟩))
  · exact pow10 (by decide) (by decide) (h _ _ (.inr ⟨rfl, rfl⟩))
theorem mul10_any {a z : Int} (ha : -1000000 ≤ a ∧ a ≤ 1000000) (hz : (n = 0 ∧ z = 1) ∨ (n = 1 ∧ z = 10)) (h : Q (.int (a * z) s.toks) { s with toks := s.toks + 1 }) : wpAny (model prog w) A (binaryOp .Mult (.int a t) (.int z u)) Q E s := by
  obtain ⟨h1, h2⟩ := ha
  rcases hz with ⟨_, rfl⟩ | ⟨_, rfl⟩ <;> exact PyProof.Rows.mul_int h
end
theorem TV.top {t p v : Int} (h : TV t p v) (b : -1000000 ≤ v ∧ v ≤ 1000000) : -1000000 ≤ t ∧ t ≤ 1000000 := by
  rcases h with ⟨_, h⟩ | ⟨_, h, _⟩ <;> omega
theorem max_sub1 {p q : Int} (hp : p = 0 ∨ p = 1) (hq : q = 0 ∨ q = 1) : ((if q > p then q else p) - p = 0 ∨ (if q > p then q else p) - p = 1) ∧ ((if q > p then q else p) - q = 0 ∨ (if q > p then q else p) - q = 1) := by
  rcases hp with rfl | rfl <;> rcases hq with rfl | rfl <;> decide
theorem scale_end {t p v₁ u q v₂ z1 z2 : Int} (hp : TV t p v₁) (hq : TV u q v₂) (h1 : ((if q > p then q else p) - p = 0 ∧ z1 = 1) ∨ ((if q > p then q else p) - p = 1 ∧ z1 = 10)) (h2 : ((if q > p then q else p) - q = 0 ∧ z2 = 1) ∨ ((if q > p then q else p) - q = 1 ∧ z2 = 10)) :
    ((if q > p then q else p) = 0 ∧ v₁ = 10 * (t * z1) ∧ v₂ = 10 * (u * z2)) ∨ ((if q > p then q else p) = 1 ∧ v₁ = t * z1 ∧ v₂ = u * z2) := by
  rcases hp with ⟨rfl, rfl⟩ | ⟨rfl, rfl, _⟩ <;> rcases hq with ⟨rfl, rfl⟩ | ⟨rfl, rfl, _⟩ <;> rcases h1 with ⟨h1, rfl⟩ | ⟨h1, rfl⟩ <;> rcases h2 with ⟨h2, rfl⟩ | ⟨h2, rfl⟩ <;> first | (exfalso; revert h1 h2; decide) | (left; refine ⟨by decide, ?_, ?_⟩ <;> omega) | (right; refine ⟨by decide, ?_, ?_⟩ <;> omega)

theorem line_p04_1 : True := by
  (k_with "binaryOp Pow int int" => (k_here; (with_reducible show wpAny _ _ (binaryOp Operator.Pow (Value.int 10 _) (Value.int _ _)) _ _ _); refine pow10_any (by with_reducible assumption) ?_; intro z9 t9 hz9))
  trivial
theorem line_p04_2 : True := by
  (k_with "binaryOp Mult int int" => (k_here; refine' mul10_any ?zqa ?zqb ?_; (case zqa => with_reducible assumption); (case zqb => with_reducible assumption)))
  trivial

/-- a tuple of three ints -/
abbrev tup3 (a : Int) (α : Tok) (b : Int) (β : Tok) (c : Int) (γ : Tok) : Obj := { cls := .type "tuple", data := .seq #[.int a α, .int b β, .int c γ] }


section
variable {h₀ : Heap} {L : Addr} {m : Str → Option Value} {news : List (Addr × Obj)}
theorem news_one {h h' : Heap} {x : Addr} {o1 : Obj} (F : Fr h₀ L h m) (N : News h₀ L h news) (k : Keep h h') (e1 : h'.get? x = some o1) (h1 : h.get? x = none) :
    News h₀ L h' ((x, o1) :: news) := by
  intro q hq
  rcases List.mem_cons.mp hq with rfl | hq
  · exact ⟨e1, fresh_of F h1⟩
  · exact ⟨k _ _ (N q hq).1, (N q hq).2⟩
end


section
variable {w : World} {mean : ExcName → Option Value} {mg mb : Str → Option Value} {A : Around} {s : Shared} {Q E : Value → Shared → Prop}
set_option maxHeartbeats 4000000 in
theorem c_scale {x dx y dy : Addr} {k1 t τ1 k2 p τ2 k3 u τ3 k4 q τ4} {v₁ v₂ : Int} (X : (hd.heap_39 w.params).In s.heap) (T : Top view (looseW view [Str.ofString "PaperError"]) mean mg mb s.heap)
    (D : DecO w s.heap x dx k1 t τ1 k2 p τ2) (D2 : DecO w s.heap y dy k3 u τ3 k4 q τ4) (hp : TV t p v₁) (hq : TV u q v₂) (b1 : -1000000 ≤ v₁ ∧ v₁ ≤ 1000000) (b2 : -1000000 ≤ v₂ ∧ v₂ ≤ 1000000)
    (hh : A.handled = none) (hdp : A.depth + 7 < recursionLimit) (hun : A.units + 80 < cLine)
    (ret : ∀ d h' tk' a α b β c γ, ((c = 0 ∧ v₁ = 10 * a ∧ v₂ = 10 * b) ∨ (c = 1 ∧ v₁ = a ∧ v₂ = b)) → Keep s.heap h' → h'.get? d = some (tup3 a α b β c γ) → s.heap.get? d = none → Q (.ref d) { s with heap := h', toks := tk' }) :
    wpAny (model PySem.Challenge.rw_nn0117_01.row.prog w) A (call (.ref 180) [.ref x, .ref y]) Q E s := by
  (revert X; k_fill; intro X)
  obtain ⟨_, dp, fr, gd, un⟩ := A
  obtain rfl : _ = none := hh
  refine enterP X T (by k_is) (by k_is) (by ktr_room) (binds := [(Str.ofString "one", .ref x), (Str.ofString "other", .ref y)]) (BindsTo.of_eq rfl) (locs rfl) ?_ (by decide) rfl rfl rfl
  intro L' h' F' N'
  try dsimp only
  try k_fold
  have tb1 := hp.top b1
  have tb2 := hq.top b2
  obtain ⟨m1, m2⟩ := max_sub1 hp.places hq.places
  k_steps

  refine ret _ _ _ _ _ _ _ _ _ (scale_end hp hq (by with_reducible assumption) (by with_reducible assumption)) (Fr.keep (by k_asm)) ((‹News _ _ _ _› : News _ _ _ _) _ (.head _)).1 ((‹News _ _ _ _› : News _ _ _ _) _ (.head _)).2.2
end

-- p05_ops
theorem TV.hundred {t p : Int} (h : TV t p (10 * 10)) : t = 10 ∧ p = 0 := by
  rcases h with ⟨h1, h2⟩ | ⟨h1, h2, h3⟩ <;> omega
theorem plus_end {a b c v₁ v₂ : Int} (h : (c = 0 ∧ v₁ = 10 * a ∧ v₂ = 10 * b) ∨ (c = 1 ∧ v₁ = a ∧ v₂ = b)) : (if c = 0 then 10 * (a + b) else a + b) = v₁ + v₂ := by
  rcases h with ⟨rfl, rfl, rfl⟩ | ⟨rfl, rfl, rfl⟩
  · rw [if_pos rfl]; omega
  · rw [if_neg (by decide)]
theorem cmp_end {a b c v₁ v₂ r : Int} (h : (c = 0 ∧ v₁ = 10 * a ∧ v₂ = 10 * b) ∨ (c = 1 ∧ v₁ = a ∧ v₂ = b)) (hr : (a - b = 0 ∧ r = 0) ∨ (0 < a - b ∧ r = 1) ∨ (a - b < 0 ∧ r = -1)) : (v₁ = v₂ ∧ r = 0) ∨ (v₂ < v₁ ∧ r = 1) ∨ (v₁ < v₂ ∧ r = -1) := by
  rcases h with ⟨_, rfl, rfl⟩ | ⟨_, rfl, rfl⟩ <;> rcases hr with ⟨h, rfl⟩ | ⟨h, rfl⟩ | ⟨h, rfl⟩
  · exact .inl ⟨by omega, rfl⟩
  · exact .inr (.inl ⟨by omega, rfl⟩)
  · exact .inr (.inr ⟨by omega, rfl⟩)
  · exact .inl ⟨by omega, rfl⟩
  · exact .inr (.inl ⟨by omega, rfl⟩)
  · exact .inr (.inr ⟨by omega, rfl⟩)
theorem TV.to {t p v u : Int} (h : TV t p v) (e : v = u) : TV t p u := e ▸ h

section
variable {w : World} {mean : ExcName → Option Value} {mg mb : Str → Option Value} {A : Around} {s : Shared} {Q E : Value → Shared → Prop} {h₀ : Heap} {L : Addr} {m : Str → Option Value} {news : List (Addr × Obj)}
theorem k_scale {x dx y dy : Addr} {C C2 : Addr} {od ox od2 ox2 : Obj} {k1 t τ1 k2 p τ2 k3 u τ3 k4 q τ4} {v₁ v₂ : Int} (F : Fr h₀ L s.heap m) (X : (hd.heap_39 w.params).In h₀) (T : Top view (looseW view [Str.ofString "PaperError"]) mean mg mb h₀) (N : News h₀ L s.heap news)
    (I : InstAt s.heap x ox C (some od)) (e1 : ox = instObj 155 dx) (e2 : od = decD w k1 t τ1 k2 p τ2) (I2 : InstAt s.heap y ox2 C2 (some od2)) (e3 : ox2 = instObj 155 dy) (e4 : od2 = decD w k3 u τ3 k4 q τ4)
    (hp : TV t p v₁) (hq : TV u q v₂) (b1 : -1000000 ≤ v₁ ∧ v₁ ≤ 1000000) (b2 : -1000000 ≤ v₂ ∧ v₂ ≤ 1000000)
    (hh : A.handled = none) (hdp : A.depth + 7 < recursionLimit) (hun : A.units + 80 < cLine)
    (ret : ∀ d h' tk' a α b β c γ, ((c = 0 ∧ v₁ = 10 * a ∧ v₂ = 10 * b) ∨ (c = 1 ∧ v₁ = a ∧ v₂ = b)) → Fr h₀ L h' m → News h₀ L h' ((d, tup3 a α b β c γ) :: news) → (∀ q ∈ news, q.1 ≠ d) → Q (.ref d) { s with heap := h', toks := tk' }) :
    wpAny (model PySem.Challenge.rw_nn0117_01.row.prog w) A (call (.ref 180) [.ref x, .ref y]) Q E s := by
  subst e1 e2 e3 e4
  exact c_scale (X.keeps F.keep) (T.keeps F.keep) ⟨I.at_, I.dict⟩ ⟨I2.at_, I2.dict⟩ hp hq b1 b2 hh hdp hun fun d h' tk' a α b β c γ hs k e en => ret d h' tk' a α b β c γ hs (F.keeps k) (news_one F N k e en) (news_ne N en)
end

theorem line_p05_1 : True := by
  (k_with "call ref" => (k_here; (with_reducible show wpAny _ _ (call (Value.ref 180) [Value.ref _, Value.ref _]) _ _ _); k_dflt (refine' k_scale ?zqF ?zqX ?zqT ?zqN ?zqI ?zqe1 ?zqe2 ?zqI2 ?zqe3 ?zqe4 ?zqhp ?zqhq ?zqb1 ?zqb2 ?zqhh ?zqhd ?zqhu ?_; (case zqF => k_asm); (case zqX => k_asm); (case zqT => k_asm); (case zqN => k_asm); (case zqI => k_inst); (case zqe1 => rfl); (case zqe2 => rfl); (case zqI2 => k_inst); (case zqe3 => rfl); (case zqe4 => rfl); (case zqhp => assumption); (case zqhq => assumption); (case zqb1 => (first | (with_reducible assumption) | omega)); (case zqb2 => (first | (with_reducible assumption) | omega)); (case zqhh => rfl); (case zqhd => ktr_room); (case zqhu => ktr_units); k_whole); intro d' h' tk' a' α' b' β' c' γ' hs' F' N' l1; (replace l1 := allNe_of l1); (simp only [AllNe, and_true] at l1); (try k_sweep)))
  trivial

section
variable {w : World} {mean : ExcName → Option Value} {mg mb : Str → Option Value} {A : Around} {s : Shared} {Q E : Value → Shared → Prop}
set_option maxHeartbeats 4000000 in
theorem c_sign {n : Int} {tk : Tok} (X : (hd.heap_39 w.params).In s.heap) (T : Top view (looseW view [Str.ofString "PaperError"]) mean mg mb s.heap)
    
    (hh : A.handled = none) (hdp : A.depth + 2 < recursionLimit) (hun : A.units + 20 < cLine)
    (ret : ∀ r t h' tk', ((n = 0 ∧ r = 0) ∨ (0 < n ∧ r = 1) ∨ (n < 0 ∧ r = -1)) → Keep s.heap h' → Q (.int r t) { s with heap := h', toks := tk' }) :
    wpAny (model PySem.Challenge.rw_nn0117_01.row.prog w) A (call (.ref 166) [.int n tk]) Q E s := by
  (revert X; k_fill; intro X)
  obtain ⟨_, dp, fr, gd, un⟩ := A
  obtain rfl : _ = none := hh
  refine enterP X T (by k_is) (by k_is) (by ktr_room) (binds := [(Str.ofString "number", .int n tk)]) (BindsTo.of_eq rfl) (locs rfl) ?_ (by decide) rfl rfl rfl
  intro L' h' F' N'
  try dsimp only
  try k_fold
  k_steps
  all_goals refine ret _ _ _ _ ?_ (Fr.keep (by k_asm))
  all_goals omega

end

section
variable {w : World} {mean : ExcName → Option Value} {mg mb : Str → Option Value} {A : Around} {s : Shared} {Q E : Value → Shared → Prop} {h₀ : Heap} {L : Addr} {m : Str → Option Value} {news : List (Addr × Obj)}
theorem k_sign {n : Int} {tk : Tok} (F : Fr h₀ L s.heap m) (X : (hd.heap_39 w.params).In h₀) (T : Top view (looseW view [Str.ofString "PaperError"]) mean mg mb h₀) (N : News h₀ L s.heap news)
    (hh : A.handled = none) (hdp : A.depth + 2 < recursionLimit) (hun : A.units + 20 < cLine)
    (ret : ∀ r t h' tk', ((n = 0 ∧ r = 0) ∨ (0 < n ∧ r = 1) ∨ (n < 0 ∧ r = -1)) → Fr h₀ L h' m → News h₀ L h' news → Q (.int r t) { s with heap := h', toks := tk' }) :
    wpAny (model PySem.Challenge.rw_nn0117_01.row.prog w) A (call (.ref 166) [.int n tk]) Q E s :=
  c_sign (X.keeps F.keep) (T.keeps F.keep) hh hdp hun fun r t h' tk' hr k => ret r t h' tk' hr (F.keeps k) (N.keepsAll k)
end

theorem line_p05_2 : True := by
  (k_with "call ref" => (k_here; (with_reducible show wpAny _ _ (call (Value.ref 166) [Value.int _ _]) _ _ _); k_dflt (refine' k_sign ?zqF ?zqX ?zqT ?zqN ?zqhh ?zqhd ?zqhu ?_; (case zqF => k_asm); (case zqX => k_asm); (case zqT => k_asm); (case zqN => k_asm); (case zqhh => rfl); (case zqhd => ktr_room); (case zqhu => ktr_units); k_whole); intro r' t' h' tk' hr' F' N'; (try k_sweep)))
  trivial

section
variable {w : World} {mean : ExcName → Option Value} {mg mb : Str → Option Value} {A : Around} {s : Shared} {Q E : Value → Shared → Prop}
set_option maxHeartbeats 4000000 in
theorem c_plus {x dx y dy : Addr} {k1 t τ1 k2 p τ2 k3 u τ3 k4 q τ4} {v₁ v₂ : Int} (X : (hd.heap_39 w.params).In s.heap) (T : Top view (looseW view [Str.ofString "PaperError"]) mean mg mb s.heap)
    (D : DecO w s.heap x dx k1 t τ1 k2 p τ2) (D2 : DecO w s.heap y dy k3 u τ3 k4 q τ4) (hp : TV t p v₁) (hq : TV u q v₂) (b1 : -1000000 ≤ v₁ ∧ v₁ ≤ 1000000) (b2 : -1000000 ≤ v₂ ∧ v₂ ≤ 1000000)
    (hh : A.handled = none) (hdp : A.depth + 11 < recursionLimit) (hun : A.units + 140 < cLine)
    (ret : ∀ x h' tk' t' p', TV t' p' (v₁ + v₂) → Keep s.heap h' → DecNew w s.heap h' x t' p' → Q (.ref x) { s with heap := h', toks := tk' }) :
    wpAny (model PySem.Challenge.rw_nn0117_01.row.prog w) A (call (.ref 82) [.ref x, .ref y]) Q E s := by
  (revert X; k_fill; intro X)
  obtain ⟨_, dp, fr, gd, un⟩ := A
  obtain rfl : _ = none := hh
  refine enterP X T (by k_is) (by k_is) (by ktr_room) (binds := [(Str.ofString "self", .ref x), (Str.ofString "other", .ref y)]) (BindsTo.of_eq rfl) (locs rfl) ?_ (by decide) rfl rfl rfl
  intro L' h' F' N'
  try dsimp only
  try k_fold
  k_steps
  refine ret _ _ _ _ _ ?_ (Fr.keep (by k_asm)) (DecNew.ofNews (by k_asm) (.head _) (.tail _ (.head _)))
  exact TV.to (by assumption) (plus_end (by with_reducible assumption))

set_option maxHeartbeats 4000000 in
theorem c_cmp {x dx y dy : Addr} {k1 t τ1 k2 p τ2 k3 u τ3 k4 q τ4} {v₁ v₂ : Int} (X : (hd.heap_39 w.params).In s.heap) (T : Top view (looseW view [Str.ofString "PaperError"]) mean mg mb s.heap)
    (D : DecO w s.heap x dx k1 t τ1 k2 p τ2) (D2 : DecO w s.heap y dy k3 u τ3 k4 q τ4) (hp : TV t p v₁) (hq : TV u q v₂) (b1 : -1000000 ≤ v₁ ∧ v₁ ≤ 1000000) (b2 : -1000000 ≤ v₂ ∧ v₂ ≤ 1000000)
    (hh : A.handled = none) (hdp : A.depth + 11 < recursionLimit) (hun : A.units + 140 < cLine)
    (ret : ∀ r t h' tk', ((v₁ = v₂ ∧ r = 0) ∨ (v₂ < v₁ ∧ r = 1) ∨ (v₁ < v₂ ∧ r = -1)) → Keep s.heap h' → Q (.int r t) { s with heap := h', toks := tk' }) :
    wpAny (model PySem.Challenge.rw_nn0117_01.row.prog w) A (call (.ref 110) [.ref x, .ref y]) Q E s := by
  (revert X; k_fill; intro X)
  obtain ⟨_, dp, fr, gd, un⟩ := A
  obtain rfl : _ = none := hh
  refine enterP X T (by k_is) (by k_is) (by ktr_room) (binds := [(Str.ofString "self", .ref x), (Str.ofString "other", .ref y)]) (BindsTo.of_eq rfl) (locs rfl) ?_ (by decide) rfl rfl rfl
  intro L' h' F' N'
  try dsimp only
  try k_fold
  k_steps
  refine ret _ _ _ _ ?_ (Fr.keep (by k_asm))
  exact cmp_end (by with_reducible assumption) (by with_reducible assumption)

set_option maxHeartbeats 4000000 in
theorem c_neg {x dx : Addr} {k1 t τ1 k2 p τ2} {v : Int} (X : (hd.heap_39 w.params).In s.heap) (T : Top view (looseW view [Str.ofString "PaperError"]) mean mg mb s.heap)
    (D : DecO w s.heap x dx k1 t τ1 k2 p τ2) (hp : TV t p v)
    (hh : A.handled = none) (hdp : A.depth + 7 < recursionLimit) (hun : A.units + 80 < cLine)
    (ret : ∀ x h' tk' t' p', TV t' p' (-v) → Keep s.heap h' → DecNew w s.heap h' x t' p' → Q (.ref x) { s with heap := h', toks := tk' }) :
    wpAny (model PySem.Challenge.rw_nn0117_01.row.prog w) A (call (.ref 103) [.ref x]) Q E s := by
  (revert X; k_fill; intro X)
  obtain ⟨_, dp, fr, gd, un⟩ := A
  obtain rfl : _ = none := hh
  refine enterP X T (by k_is) (by k_is) (by ktr_room) (binds := [(Str.ofString "self", .ref x)]) (BindsTo.of_eq rfl) (locs rfl) ?_ (by decide) rfl rfl rfl
  intro L' h' F' N'
  try dsimp only
  try k_fold
  have hpl := hp.places
  k_steps
  refine ret _ _ _ _ _ ?_ (Fr.keep (by k_asm)) (DecNew.ofNews (by k_asm) (.head _) (.tail _ (.head _)))
  exact TV.to (by assumption) (by rcases hp with ⟨rfl, rfl⟩ | ⟨rfl, rfl, _⟩ <;> simp <;> omega)

set_option maxHeartbeats 4000000 in
theorem c_times {x dx : Addr} {k1 t τ1 k2 p τ2} {v : Int} {tk : Tok} (X : (hd.heap_39 w.params).In s.heap) (T : Top view (looseW view [Str.ofString "PaperError"]) mean mg mb s.heap)
    (D : DecO w s.heap x dx k1 t τ1 k2 p τ2) (hp : TV t p v) (b1 : -1000000 ≤ v ∧ v ≤ 1000000)
    (hh : A.handled = none) (hdp : A.depth + 9 < recursionLimit) (hun : A.units + 120 < cLine)
    (ret : ∀ x h' tk' t' p', TV t' p' (10 * v) → Keep s.heap h' → DecNew w s.heap h' x t' p' → Q (.ref x) { s with heap := h', toks := tk' }) :
    wpAny (model PySem.Challenge.rw_nn0117_01.row.prog w) A (call (.ref 96) [.ref x, .int 10 tk]) Q E s := by
  (revert X; k_fill; intro X)
  obtain ⟨_, dp, fr, gd, un⟩ := A
  obtain rfl : _ = none := hh
  refine enterP X T (by k_is) (by k_is) (by ktr_room) (binds := [(Str.ofString "self", .ref x), (Str.ofString "other", .int 10 tk)]) (BindsTo.of_eq rfl) (locs rfl) ?_ (by decide) rfl rfl rfl
  intro L' h' F' N'
  try dsimp only
  try k_fold
  have hpl := hp.places
  k_steps
  rename TV _ _ (10 * 10) => hten
  obtain ⟨rfl, rfl⟩ := TV.hundred hten
  have hb : -1000000 ≤ t ∧ t ≤ 1000000 := by rcases hp with ⟨_, h⟩ | ⟨_, h, _⟩ <;> omega
  k_steps
  refine ret _ _ _ _ _ ?_ (Fr.keep (by k_asm)) (DecNew.ofNews (by k_asm) (.head _) (.tail _ (.head _)))
  exact TV.to (by assumption) (by rcases hp with ⟨rfl, rfl⟩ | ⟨rfl, rfl, _⟩ <;> simp <;> omega)

set_option maxHeartbeats 4000000 in
theorem c_floor {x dx : Addr} {k1 t τ1 k2 p τ2} {v : Int} (X : (hd.heap_39 w.params).In s.heap) (T : Top view (looseW view [Str.ofString "PaperError"]) mean mg mb s.heap)
    (D : DecO w s.heap x dx k1 t τ1 k2 p τ2) (hp : TV t p (10 * v)) (b1 : -1000000 ≤ v ∧ v ≤ 1000000)
    (hh : A.handled = none) (hdp : A.depth + 4 < recursionLimit) (hun : A.units + 40 < cLine)
    (ret : ∀ r τ h' tk', r = v → Keep s.heap h' → Q (.int r τ) { s with heap := h', toks := tk' }) :
    wpAny (model PySem.Challenge.rw_nn0117_01.row.prog w) A (call (.ref 124) [.ref x]) Q E s := by
  (revert X; k_fill; intro X)
  obtain ⟨_, dp, fr, gd, un⟩ := A
  obtain rfl : _ = none := hh
  refine enterP X T (by k_is) (by k_is) (by ktr_room) (binds := [(Str.ofString "self", .ref x)]) (BindsTo.of_eq rfl) (locs rfl) ?_ (by decide) rfl rfl rfl
  intro L' h' F' N'
  try dsimp only
  try k_fold
  obtain ⟨rfl, h⟩ | ⟨rfl, h1, h2⟩ := hp
  · obtain rfl : t = v := by omega
    k_steps
    exact ret _ _ _ _ (Int.fdiv_one _) (Fr.keep (by k_asm))
  · omega

set_option maxHeartbeats 4000000 in
theorem c_told {x dx : Addr} {k1 t τ1 k2 p τ2} (X : (hd.heap_39 w.params).In s.heap) (T : Top view (looseW view [Str.ofString "PaperError"]) mean mg mb s.heap)
    (D : DecO w s.heap x dx k1 t τ1 k2 p τ2)
    (hh : A.handled = none) (hdp : A.depth + 4 < recursionLimit) (hun : A.units + 40 < cLine)
    (ret : ∀ d h' tk', Keep s.heap h' → h'.get? d = some ({ cls := .type "tuple", data := .seq #[.int t τ1, .int p τ2] } : Obj) → s.heap.get? d = none → Q (.ref d) { s with heap := h', toks := tk' }) :
    wpAny (model PySem.Challenge.rw_nn0117_01.row.prog w) A (call (.ref 138) [.ref x]) Q E s := by
  (revert X; k_fill; intro X)
  obtain ⟨_, dp, fr, gd, un⟩ := A
  obtain rfl : _ = none := hh
  refine enterP X T (by k_is) (by k_is) (by ktr_room) (binds := [(Str.ofString "self", .ref x)]) (BindsTo.of_eq rfl) (locs rfl) ?_ (by decide) rfl rfl rfl
  intro L' h' F' N'
  try dsimp only
  try k_fold
  k_steps
  exact ret _ _ _ (Fr.keep (by k_asm)) ((‹News _ _ _ _› : News _ _ _ _) _ (.head _)).1 ((‹News _ _ _ _› : News _ _ _ _) _ (.head _)).2.2

end

-- p06_meth
section
variable {w : World} {mean : ExcName → Option Value} {mg mb : Str → Option Value} {A : Around} {s : Shared} {Q E : Value → Shared → Prop} {h₀ : Heap} {L : Addr} {m : Str → Option Value} {news : List (Addr × Obj)}
theorem k_plus {x dx y dy : Addr} {C C2 : Addr} {od ox od2 ox2 : Obj} {k1 t τ1 k2 p τ2 k3 u τ3 k4 q τ4} {v₁ v₂ : Int} (F : Fr h₀ L s.heap m) (X : (hd.heap_39 w.params).In h₀) (T : Top view (looseW view [Str.ofString "PaperError"]) mean mg mb h₀) (N : News h₀ L s.heap news)
    (I : InstAt s.heap x ox C (some od)) (e1 : ox = instObj 155 dx) (e2 : od = decD w k1 t τ1 k2 p τ2) (I2 : InstAt s.heap y ox2 C2 (some od2)) (e3 : ox2 = instObj 155 dy) (e4 : od2 = decD w k3 u τ3 k4 q τ4) (hp : TV t p v₁) (hq : TV u q v₂) (b1 : -1000000 ≤ v₁ ∧ v₁ ≤ 1000000) (b2 : -1000000 ≤ v₂ ∧ v₂ ≤ 1000000)
    (hh : A.handled = none) (hdp : A.depth + 11 < recursionLimit) (hun : A.units + 140 < cLine)
    (ret : ∀ x dx k1 t' τ1 k2 p' τ2 h' tk', TV t' p' (v₁ + v₂) → Fr h₀ L h' m → News h₀ L h' ((x, instObj 155 dx) :: (dx, decD w k1 t' τ1 k2 p' τ2) :: news) → (∀ q ∈ news, q.1 ≠ dx) → (∀ q ∈ news, q.1 ≠ x) → @Ne Nat dx x → Q (.ref x) { s with heap := h', toks := tk' }) :
    wpAny (model PySem.Challenge.rw_nn0117_01.row.prog w) A (call (.ref 82) [.ref x, .ref y]) Q E s := by
  subst e1 e2 e3 e4
  exact c_plus (X.keeps F.keep) (T.keeps F.keep) ⟨I.at_, I.dict⟩ ⟨I2.at_, I2.dict⟩ hp hq b1 b2 hh hdp hun fun _ h' tk' _ _ hv k ⟨_, _, _, _, _, D, h1, h2⟩ => ret _ _ _ _ _ _ _ _ h' tk' hv (F.keeps k) (news_dec F N k D h1 h2) (news_ne N h2) (news_ne N h1) D.ne
end

theorem line_p06_1 : True := by
  (k_with "call ref" => (k_here; (with_reducible show wpAny _ _ (call (Value.ref 82) [Value.ref _, Value.ref _]) _ _ _); k_dflt (refine' k_plus ?zqF ?zqX ?zqT ?zqN ?zqI ?zqe1 ?zqe2 ?zqI2 ?zqe3 ?zqe4 ?zqhp ?zqhq ?zqb1 ?zqb2 ?zqhh ?zqhd ?zqhu ?_; (case zqF => k_asm); (case zqX => k_asm); (case zqT => k_asm); (case zqN => k_asm); (case zqI => k_inst); (case zqe1 => rfl); (case zqe2 => rfl); (case zqI2 => k_inst); (case zqe3 => rfl); (case zqe4 => rfl); (case zqhp => assumption); (case zqhq => assumption); (case zqb1 => (first | (with_reducible assumption) | omega)); (case zqb2 => (first | (with_reducible assumption) | omega)); (case zqhh => rfl); (case zqhd => ktr_room); (case zqhu => ktr_units); k_whole); intro x' dx' k1' t' τ1' k2' p' τ2' h' tk' hv' F' N' l1 l2 l3; (replace l1 := allNe_of l1); (replace l2 := allNe_of l2); (simp only [AllNe, and_true] at l1 l2); (try k_sweep)))
  trivial

section
variable {w : World} {mean : ExcName → Option Value} {mg mb : Str → Option Value} {A : Around} {s : Shared} {Q E : Value → Shared → Prop} {h₀ : Heap} {L : Addr} {m : Str → Option Value} {news : List (Addr × Obj)}
theorem k_cmp {x dx y dy : Addr} {C C2 : Addr} {od ox od2 ox2 : Obj} {k1 t τ1 k2 p τ2 k3 u τ3 k4 q τ4} {v₁ v₂ : Int} (F : Fr h₀ L s.heap m) (X : (hd.heap_39 w.params).In h₀) (T : Top view (looseW view [Str.ofString "PaperError"]) mean mg mb h₀) (N : News h₀ L s.heap news)
    (I : InstAt s.heap x ox C (some od)) (e1 : ox = instObj 155 dx) (e2 : od = decD w k1 t τ1 k2 p τ2) (I2 : InstAt s.heap y ox2 C2 (some od2)) (e3 : ox2 = instObj 155 dy) (e4 : od2 = decD w k3 u τ3 k4 q τ4) (hp : TV t p v₁) (hq : TV u q v₂) (b1 : -1000000 ≤ v₁ ∧ v₁ ≤ 1000000) (b2 : -1000000 ≤ v₂ ∧ v₂ ≤ 1000000)
    (hh : A.handled = none) (hdp : A.depth + 11 < recursionLimit) (hun : A.units + 140 < cLine)
    (ret : ∀ r t h' tk', ((v₁ = v₂ ∧ r = 0) ∨ (v₂ < v₁ ∧ r = 1) ∨ (v₁ < v₂ ∧ r = -1)) → Fr h₀ L h' m → News h₀ L h' news → Q (.int r t) { s with heap := h', toks := tk' }) :
    wpAny (model PySem.Challenge.rw_nn0117_01.row.prog w) A (call (.ref 110) [.ref x, .ref y]) Q E s := by
  subst e1 e2 e3 e4
  exact c_cmp (X.keeps F.keep) (T.keeps F.keep) ⟨I.at_, I.dict⟩ ⟨I2.at_, I2.dict⟩ hp hq b1 b2 hh hdp hun fun r t h' tk' hr k => ret r t h' tk' hr (F.keeps k) (N.keepsAll k)
end

theorem line_p06_2 : True := by
  (k_with "call ref" => (k_here; (with_reducible show wpAny _ _ (call (Value.ref 110) [Value.ref _, Value.ref _]) _ _ _); k_dflt (refine' k_cmp ?zqF ?zqX ?zqT ?zqN ?zqI ?zqe1 ?zqe2 ?zqI2 ?zqe3 ?zqe4 ?zqhp ?zqhq ?zqb1 ?zqb2 ?zqhh ?zqhd ?zqhu ?_; (case zqF => k_asm); (case zqX => k_asm); (case zqT => k_asm); (case zqN => k_asm); (case zqI => k_inst); (case zqe1 => rfl); (case zqe2 => rfl); (case zqI2 => k_inst); (case zqe3 => rfl); (case zqe4 => rfl); (case zqhp => assumption); (case zqhq => assumption); (case zqb1 => (first | (with_reducible assumption) | omega)); (case zqb2 => (first | (with_reducible assumption) | omega)); (case zqhh => rfl); (case zqhd => ktr_room); (case zqhu => ktr_units); k_whole); intro r' t' h' tk' hr' F' N'; (try k_sweep)))
  trivial

section
variable {w : World} {mean : ExcName → Option Value} {mg mb : Str → Option Value} {A : Around} {s : Shared} {Q E : Value → Shared → Prop} {h₀ : Heap} {L : Addr} {m : Str → Option Value} {news : List (Addr × Obj)}
theorem k_neg {x dx : Addr} {C : Addr} {od ox : Obj} {k1 t τ1 k2 p τ2} {v : Int} (F : Fr h₀ L s.heap m) (X : (hd.heap_39 w.params).In h₀) (T : Top view (looseW view [Str.ofString "PaperError"]) mean mg mb h₀) (N : News h₀ L s.heap news)
    (I : InstAt s.heap x ox C (some od)) (e1 : ox = instObj 155 dx) (e2 : od = decD w k1 t τ1 k2 p τ2) (hp : TV t p v)
    (hh : A.handled = none) (hdp : A.depth + 7 < recursionLimit) (hun : A.units + 80 < cLine)
    (ret : ∀ x dx k1 t' τ1 k2 p' τ2 h' tk', TV t' p' (-v) → Fr h₀ L h' m → News h₀ L h' ((x, instObj 155 dx) :: (dx, decD w k1 t' τ1 k2 p' τ2) :: news) → (∀ q ∈ news, q.1 ≠ dx) → (∀ q ∈ news, q.1 ≠ x) → @Ne Nat dx x → Q (.ref x) { s with heap := h', toks := tk' }) :
    wpAny (model PySem.Challenge.rw_nn0117_01.row.prog w) A (call (.ref 103) [.ref x]) Q E s := by
  subst e1 e2
  exact c_neg (X.keeps F.keep) (T.keeps F.keep) ⟨I.at_, I.dict⟩ hp hh hdp hun fun _ h' tk' _ _ hv k ⟨_, _, _, _, _, D, h1, h2⟩ => ret _ _ _ _ _ _ _ _ h' tk' hv (F.keeps k) (news_dec F N k D h1 h2) (news_ne N h2) (news_ne N h1) D.ne
end

theorem line_p06_3 : True := by
  (k_with "call ref" => (k_here; (with_reducible show wpAny _ _ (call (Value.ref 103) _) _ _ _); k_dflt (refine' k_neg ?zqF ?zqX ?zqT ?zqN ?zqI ?zqe1 ?zqe2 ?zqhp ?zqhh ?zqhd ?zqhu ?_; (case zqF => k_asm); (case zqX => k_asm); (case zqT => k_asm); (case zqN => k_asm); (case zqI => k_inst); (case zqe1 => rfl); (case zqe2 => rfl); (case zqhp => assumption); (case zqhh => rfl); (case zqhd => ktr_room); (case zqhu => ktr_units); k_whole); intro x' dx' k1' t' τ1' k2' p' τ2' h' tk' hv' F' N' l1 l2 l3; (replace l1 := allNe_of l1); (replace l2 := allNe_of l2); (simp only [AllNe, and_true] at l1 l2); (try k_sweep)))
  trivial

section
variable {w : World} {mean : ExcName → Option Value} {mg mb : Str → Option Value} {A : Around} {s : Shared} {Q E : Value → Shared → Prop} {h₀ : Heap} {L : Addr} {m : Str → Option Value} {news : List (Addr × Obj)}
theorem k_times {x dx : Addr} {C : Addr} {od ox : Obj} {k1 t τ1 k2 p τ2} {v : Int} {tk : Tok} (F : Fr h₀ L s.heap m) (X : (hd.heap_39 w.params).In h₀) (T : Top view (looseW view [Str.ofString "PaperError"]) mean mg mb h₀) (N : News h₀ L s.heap news)
    (I : InstAt s.heap x ox C (some od)) (e1 : ox = instObj 155 dx) (e2 : od = decD w k1 t τ1 k2 p τ2) (hp : TV t p v) (b1 : -1000000 ≤ v ∧ v ≤ 1000000)
    (hh : A.handled = none) (hdp : A.depth + 9 < recursionLimit) (hun : A.units + 120 < cLine)
    (ret : ∀ x dx k1 t' τ1 k2 p' τ2 h' tk', TV t' p' (10 * v) → Fr h₀ L h' m → News h₀ L h' ((x, instObj 155 dx) :: (dx, decD w k1 t' τ1 k2 p' τ2) :: news) → (∀ q ∈ news, q.1 ≠ dx) → (∀ q ∈ news, q.1 ≠ x) → @Ne Nat dx x → Q (.ref x) { s with heap := h', toks := tk' }) :
    wpAny (model PySem.Challenge.rw_nn0117_01.row.prog w) A (call (.ref 96) [.ref x, .int 10 tk]) Q E s := by
  subst e1 e2
  exact c_times (X.keeps F.keep) (T.keeps F.keep) ⟨I.at_, I.dict⟩ hp b1 hh hdp hun fun _ h' tk' _ _ hv k ⟨_, _, _, _, _, D, h1, h2⟩ => ret _ _ _ _ _ _ _ _ h' tk' hv (F.keeps k) (news_dec F N k D h1 h2) (news_ne N h2) (news_ne N h1) D.ne
end

theorem line_p06_4 : True := by
  (k_with "call ref" => (k_here; (with_reducible show wpAny _ _ (call (Value.ref 96) [Value.ref _, Value.int _ _]) _ _ _); k_dflt (refine' k_times ?zqF ?zqX ?zqT ?zqN ?zqI ?zqe1 ?zqe2 ?zqhp ?zqb1 ?zqhh ?zqhd ?zqhu ?_; (case zqF => k_asm); (case zqX => k_asm); (case zqT => k_asm); (case zqN => k_asm); (case zqI => k_inst); (case zqe1 => rfl); (case zqe2 => rfl); (case zqhp => assumption); (case zqb1 => (first | (with_reducible assumption) | omega)); (case zqhh => rfl); (case zqhd => ktr_room); (case zqhu => ktr_units); k_whole); intro x' dx' k1' t' τ1' k2' p' τ2' h' tk' hv' F' N' l1 l2 l3; (replace l1 := allNe_of l1); (replace l2 := allNe_of l2); (simp only [AllNe, and_true] at l1 l2); (try k_sweep)))
  trivial

section
variable {w : World} {mean : ExcName → Option Value} {mg mb : Str → Option Value} {A : Around} {s : Shared} {Q E : Value → Shared → Prop} {h₀ : Heap} {L : Addr} {m : Str → Option Value} {news : List (Addr × Obj)}
theorem k_floor {x dx : Addr} {C : Addr} {od ox : Obj} {k1 t τ1 k2 p τ2} {v : Int} (F : Fr h₀ L s.heap m) (X : (hd.heap_39 w.params).In h₀) (T : Top view (looseW view [Str.ofString "PaperError"]) mean mg mb h₀) (N : News h₀ L s.heap news)
    (I : InstAt s.heap x ox C (some od)) (e1 : ox = instObj 155 dx) (e2 : od = decD w k1 t τ1 k2 p τ2) (hp : TV t p (10 * v)) (b1 : -1000000 ≤ v ∧ v ≤ 1000000)
    (hh : A.handled = none) (hdp : A.depth + 4 < recursionLimit) (hun : A.units + 40 < cLine)
    (ret : ∀ r τ h' tk', r = v → Fr h₀ L h' m → News h₀ L h' news → Q (.int r τ) { s with heap := h', toks := tk' }) :
    wpAny (model PySem.Challenge.rw_nn0117_01.row.prog w) A (call (.ref 124) [.ref x]) Q E s := by
  subst e1 e2
  exact c_floor (X.keeps F.keep) (T.keeps F.keep) ⟨I.at_, I.dict⟩ hp b1 hh hdp hun fun r τ h' tk' hr k => ret r τ h' tk' hr (F.keeps k) (N.keepsAll k)
end

theorem line_p06_5 : True := by
  (k_with "call ref" => (k_here; (with_reducible show wpAny _ _ (call (Value.ref 124) _) _ _ _); k_dflt (refine' k_floor ?zqF ?zqX ?zqT ?zqN ?zqI ?zqe1 ?zqe2 ?zqhp ?zqb1 ?zqhh ?zqhd ?zqhu ?_; (case zqF => k_asm); (case zqX => k_asm); (case zqT => k_asm); (case zqN => k_asm); (case zqI => k_inst); (case zqe1 => rfl); (case zqe2 => rfl); (case zqhp => assumption); (case zqb1 => (first | (with_reducible assumption) | omega)); (case zqhh => rfl); (case zqhd => ktr_room); (case zqhu => ktr_units); k_whole); intro r' t' h' tk' hr' F' N'; (try k_sweep)))
  trivial

section
variable {w : World} {mean : ExcName → Option Value} {mg mb : Str → Option Value} {A : Around} {s : Shared} {Q E : Value → Shared → Prop} {h₀ : Heap} {L : Addr} {m : Str → Option Value} {news : List (Addr × Obj)}
theorem k_told {x dx : Addr} {C : Addr} {od ox : Obj} {k1 t τ1 k2 p τ2} (F : Fr h₀ L s.heap m) (X : (hd.heap_39 w.params).In h₀) (T : Top view (looseW view [Str.ofString "PaperError"]) mean mg mb h₀) (N : News h₀ L s.heap news)
    (I : InstAt s.heap x ox C (some od)) (e1 : ox = instObj 155 dx) (e2 : od = decD w k1 t τ1 k2 p τ2)
    (hh : A.handled = none) (hdp : A.depth + 4 < recursionLimit) (hun : A.units + 40 < cLine)
    (ret : ∀ d h' tk', Fr h₀ L h' m → News h₀ L h' ((d, ({ cls := .type "tuple", data := .seq #[.int t τ1, .int p τ2] } : Obj)) :: news) → (∀ q ∈ news, q.1 ≠ d) → Q (.ref d) { s with heap := h', toks := tk' }) :
    wpAny (model PySem.Challenge.rw_nn0117_01.row.prog w) A (call (.ref 138) [.ref x]) Q E s := by
  subst e1 e2
  exact c_told (X.keeps F.keep) (T.keeps F.keep) ⟨I.at_, I.dict⟩ hh hdp hun fun d h' tk' k e en => ret d h' tk' (F.keeps k) (news_one F N k e en) (news_ne N en)
end

theorem line_p06_6 : True := by
  (k_with "call ref" => (k_here; (with_reducible show wpAny _ _ (call (Value.ref 138) _) _ _ _); k_dflt (refine' k_told ?zqF ?zqX ?zqT ?zqN ?zqI ?zqe1 ?zqe2 ?zqhh ?zqhd ?zqhu ?_; (case zqF => k_asm); (case zqX => k_asm); (case zqT => k_asm); (case zqN => k_asm); (case zqI => k_inst); (case zqe1 => rfl); (case zqe2 => rfl); (case zqhh => rfl); (case zqhd => ktr_room); (case zqhu => ktr_units); k_whole); intro d' h' tk' F' N' l1; (replace l1 := allNe_of l1); (simp only [AllNe, and_true] at l1); (try k_sweep)))
  trivial


-- p07_least
/-- a value that is a Decimal of n tenths -/
def DV (w : World) (h : Heap) (v : Value) (n : Int) : Prop := ∃ x dx k1 t τ1 k2 p τ2, v = .ref x ∧ DecO w h x dx k1 t τ1 k2 p τ2 ∧ TV t p n ∧ -100000 ≤ n ∧ n ≤ 100000
theorem DV.keeps {w h h' v n} (D : DV w h v n) (k : Keep h h') : DV w h' v n := by
  obtain ⟨x, dx, k1, t, τ1, k2, p, τ2, e, D, r⟩ := D
  exact ⟨x, dx, k1, t, τ1, k2, p, τ2, e, D.keeps k, r⟩

theorem DV.outR {w : World} {h : Heap} {x : Addr} {n : Int} {P : Prop} (D : DV w h (.ref x) n) (k : ∀ dx k1 t τ1 k2 p τ2, DecO w h x dx k1 t τ1 k2 p τ2 → TV t p n → -1000000 ≤ n ∧ n ≤ 1000000 → P) : P := by
  obtain ⟨x, dx, k1, t, τ1, k2, p, τ2, e, D, c, d⟩ := D
  cases e
  exact k dx k1 t τ1 k2 p τ2 D c ⟨by omega, by omega⟩
theorem DV.ref {w : World} {h : Heap} {v : Value} {n : Int} (D : DV w h v n) : ∃ x, v = .ref x := let ⟨x, _, _, _, _, _, _, _, e, _⟩ := D; ⟨x, e⟩

/-- a mark at which the walk halts -/
def Halt (P : Prop) : Prop := P
theorem Halt.out {P : Prop} (h : Halt P) : P := h
theorem Halt.mk {P : Prop} (h : P) : Halt P := h

section
variable {prog : Program} {w : World} {A : Around} {E : Value → Shared → Prop} {s : Shared} {h₀ : Heap} {L l : Addr} {m : Str → Option Value} {news : List (Addr × Obj)}
theorem len_any {vs : List Value} {n : Int} {Q : Value → Shared → Prop} (hl : s.heap.IsList l vs.toArray) (hn : (vs.length : Int) = n) (hb : vs.length ≤ 2 ^ 40) (h : ∀ t, Q (.int n t) { s with toks := s.toks + 1 + 1 }) :
    wpAny (model prog w) A (call (.builtin "len") [.ref l]) Q E s := by
  refine len_list hl (by rw [List.size_toArray]; omega) ?_
  rw [List.size_toArray, hn]
  exact h _

theorem pick_tail (v : Value) (vs : List Value) : (slicePick (v :: vs).toArray (some 1) none none).toList = vs := by
  have e : sliceBounds (some 1) none none (v :: vs).toArray.size = (((1 : Nat) : Int), (((v :: vs).toArray.size : Nat) : Int), 1) := by
    simp [sliceBounds]
    omega
  rw [kmk_pick_nat _ e]
  simp

theorem slice_rest {value slice : PySem.Expr} {v : Value} {vs : List Value} {t : Tok} {Q : Value → Shared → Prop} (F : Fr h₀ L s.heap m) (N : News h₀ L s.heap news) (hl : s.heap.IsList l (v :: vs).toArray)
    (h : ∀ D h', Fr h₀ L h' m → News h₀ L h' ((D, listOf vs.toArray 0) :: news) → (∀ p ∈ news, p.1 < D) → Q (.ref D) { s with heap := h' })
    (hs : subscripted slice false (.ref l) (.ref s.heap.objs.size) = operate [.ref s.heap.objs.size, .ref l] (getItem (.ref l) (.ref s.heap.objs.size))) (ht : ∀ r, letTemporaryGo value (.ref l) r = pure ()) (hz : vs.length + 1 ≤ sizeLine) :
    wpAny (model prog w) A (subscriptTail value slice (.ref l) (.ref s.heap.objs.size)) Q E { s with heap := s.heap.push { cls := .type "slice", data := .fields #[.int 1 t, .none, .none] } } :=
  kmk_slice_lit F N hl (.int 1 t) .none (pick_tail v vs) h hs ht (by simpa using hz)
end

section
variable {prog : Program} {w : World} {A : Around} {E : Value → Shared → Prop} {s : Shared} {env : Env} {h₀ : Heap} {x : Str} {body : List Stmt} {Q : Flow → Shared → Prop}
/-- a for over a list that stands (of the ledger or of the base), by an invariant over the turn's number, the frame and the ledger -/
theorem for_madeU {l : Addr} {vs : List Value} {m₀ : Str → Option Value} {news : List (Addr × Obj)} (J : Nat → (Str → Option Value) → List (Addr × Obj) → Prop)
    (hh : A.handled = none) (F : Fr h₀ env.locals s.heap m₀) (N : News h₀ env.locals s.heap news) (hl : s.heap.IsList l vs.toArray) (hlL : l ≠ env.locals) (hj : J 0 m₀ news)
    (turn : ∀ I i v m₁ news₁ (s₁ : Shared) own, vs[i]? = some v → J i m₁ news₁ → (∀ p ∈ own, p.1 = I ∨ p.1 = l) → (∀ p ∈ news₁, p.1 ∉ [I]) → Fr h₀ env.locals s₁.heap (fun y => if y = x then some v else m₁ y) → News h₀ env.locals s₁.heap (own ++ news₁) →
      wpAny (model prog w) A (execs body env) (LoopStepU h₀ env.locals [I] own (J (i + 1)) s₁) E s₁)
    (done : ∀ m₁ news₁ h tk, J vs.length m₁ news₁ → Fr h₀ env.locals h m₁ → News h₀ env.locals h news₁ → Q .next { s with heap := h, toks := tk }) :
    wpAny (model prog w) A (pyIter (.ref l)) (fun it s₂ => LoopAtU prog w A h₀ env x body Q E it s₂) E s := by
  obtain ⟨ol, hol, _⟩ := id hl
  have hlt : l < s.heap.objs.size := Heap.lt_size hol
  refine wpAny_pyIter_list hl ?_
  have W := Walks.list (prog := prog) (w := w) hh s.heap.objs.size l (Nat.ne_of_lt hlt) vs.toArray
  have hlen : vs.toArray.size = vs.length := List.size_toArray ..
  rw [hlen] at W
  refine ⟨_, _, _, vs.length, _, _, m₀, news, J, rfl, W, ?_, ?_, ?_, ⟨⟨_, Heap.get?_push_size _ rfl, rfl, rfl⟩, hl.push _⟩, F.push _, (fun p hp => ⟨Heap.get?_push_of_some _ (N p hp).1, (N p hp).2⟩), hj, ?_, ?_⟩
  · intro hm
    rcases List.mem_cons.mp hm with e | hm
    · exact absurd F.ns.lt (e ▸ Nat.lt_irrefl _)
    · exact hlL (List.mem_singleton.mp hm).symm
  · intro b hb
    rw [List.mem_singleton.mp hb]
    exact next_is_new F
  · intro p hp hI
    exact absurd (Heap.lt_size (N p hp).1) ((List.mem_singleton.mp hI) ▸ Nat.lt_irrefl _)
  · rintro i v m₁ news₁ s₁ own hin hP hJ hoff hown _ _ _ F₁ N₁
    exact turn _ i v m₁ news₁ s₁ own (by simpa using hP) hJ (fun p hp => by simpa using hown p hp) hoff F₁ N₁
  · rintro h' tk m' news' F' N' _ hJ
    exact done m' news' h' tk hJ F' N'
end

theorem line_p07_1 : True := by
  (k_with "call builtin:len" => (k_here; (with_reducible show wpAny _ _ (call (Value.builtin "len") [Value.ref _]) _ _ _); (with_unfolding_all refine' len_any ?zqk1 ?zqk2 ?zqk3 ?_; (case zqk1 => is_list); (case zqk2 => (try simp only [List.length_cons, List.length_nil, List.length_map, List.length_append]); rfl); (case zqk3 => ((try simp only [List.length_cons, List.length_nil, List.length_map, List.length_append]); omega)); k_whole); intro t'))
  trivial
theorem line_p07_2 : True := by
  (k_with "subscriptTail Name Slice ref ref" => (k_here; (with_reducible show wpAny _ _ (subscriptTail _ (PySem.Expr.Slice _ _ none _) (Value.ref _) (Value.ref _)) _ _ _); k_dflt (refine' slice_rest ?zqF ?zqN ?zql ?_ ?zqs ?zqt ?zqz; (case zqF => k_asm); (case zqN => k_asm); (case zql => is_list); (case zqs => with_unfolding_all rfl); (case zqt => kmk_pure); (case zqz => (simp only [List.length_map, PySem.sizeLine_eq]; omega))); intro D' h' F' N' l1; (try k_lt l1); (try k_sweep)))
  trivial
local macro_rules | `(tactic| walk_at "pyIter ref") => `(tactic| ((with_reducible show wpAny _ _ (pyIter (Value.ref _)) (fun it s₂ => LoopAtU _ _ _ _ _ _ _ _ _ it s₂) _ _); refine Halt.out ?_))

theorem two_names {m₁ m₀ : Str → Option Value} {x b : Str} {u v c : Option Value} (h : ∀ y, m₁ y = if y = x then u else if y = b then c else m₀ y) :
    (fun y => if y = x then v else m₁ y) = fun y => if y = x then v else if y = b then c else m₀ y := by
  funext y
  by_cases q : y = x
  · rw [if_pos q, if_pos q]
  · rw [if_neg q, if_neg q, h, if_neg q]

theorem three_names {α : Type} {x b y : Str} {c v d e : α} (hxb : x ≠ b) : (if y = b then c else if y = x then v else if y = b then d else e) = if y = x then v else if y = b then c else e := by
  by_cases q : y = b
  · rw [if_pos q, if_neg (fun z => hxb (z.symm.trans q)), if_pos q]
  · rw [if_neg q, if_neg q, if_neg q]

theorem min_more {q : Value × Int} {rest : List (Value × Int)} {i : Nat} {r z : Value × Int} (hz : rest[i]? = some z) (h : ∀ u ∈ q :: rest.take i, r.2 ≤ u.2) (hr : r.2 ≤ z.2) : ∀ u ∈ q :: rest.take (i + 1), r.2 ≤ u.2 := by
  intro u hu
  rw [List.take_add_one, hz, Option.toList_some] at hu
  rcases List.mem_cons.mp hu with rfl | hu
  · exact h _ (.head _)
  · rcases List.mem_append.mp hu with hu | hu
    · exact h _ (.tail _ hu)
    · rw [List.mem_singleton.mp hu]; exact hr

section
variable {w : World} {mean : ExcName → Option Value} {mg mb : Str → Option Value} {A : Around} {s : Shared} {Q E : Value → Shared → Prop}
set_option maxHeartbeats 4000000 in
theorem c_least {l : Addr} {q : Value × Int} {rest : List (Value × Int)} (X : (hd.heap_39 w.params).In s.heap) (T : Top view (looseW view [Str.ofString "PaperError"]) mean mg mb s.heap)
    (hl : s.heap.IsList l (q.1 :: rest.map (·.1)).toArray) (hall : ∀ r ∈ q :: rest, DV w s.heap r.1 r.2) (hlen : rest.length ≤ 1000)
    (hh : A.handled = none) (hdp : A.depth + 13 < recursionLimit) (hun : A.units + 160 < cLine)
    (ret : ∀ r h' tk', r ∈ q :: rest → (∀ u ∈ q :: rest, r.2 ≤ u.2) → Keep s.heap h' → Q r.1 { s with heap := h', toks := tk' }) :
    wpAny (model PySem.Challenge.rw_nn0117_01.row.prog w) A (call (.ref 187) [.ref l]) Q E s := by
  (revert X; k_fill; intro X)
  obtain ⟨_, dp, fr, gd, un⟩ := A
  obtain rfl : _ = none := hh
  obtain ⟨v₀, n₀⟩ := q
  obtain ⟨x₀, rfl⟩ := (hall _ (.head _)).ref
  refine DV.outR (hall _ (.head _)) fun dx₀ k1 t₀ τ1 k2 p₀ τ2 D₀ hv₀ hb₀ => ?_
  refine enterP X T (by k_is) (by k_is) (by ktr_room) (binds := [(Str.ofString "values", .ref l)]) (BindsTo.of_eq rfl) (locs rfl) ?_ (by decide) rfl rfl rfl
  intro L' h' F' N'
  try dsimp only
  try k_fold
  k_steps
  · exfalso; omega
  rename News _ _ _ _ => Nk
  rename Fr _ _ _ _ => Fk
  refine Halt.mk (for_madeU (vs := rest.map (·.1)) (fun i m₁ news₁ => news₁ = [(_, listOf (rest.map (·.1)).toArray 0)] ∧ ∃ (r : Value × Int) (u : Option Value), r ∈ (Value.ref x₀, n₀) :: rest ∧ (∀ z ∈ (Value.ref x₀, n₀) :: rest.take i, r.2 ≤ z.2) ∧
    ∀ y, m₁ y = if y = Str.ofString "value" then u else if y = Str.ofString "best" then some r.1 else List.lookup y [(Str.ofString "values", Value.ref l)].reverse) rfl Fk Nk (Nk.isList (.head _)) (Nk _ (.head _)).2.1 ⟨rfl, (Value.ref x₀, n₀), none, .head _, ?_, ?_⟩ ?_ ?_)
  · intro z hz
    rw [List.take_zero] at hz
    rw [List.mem_singleton.mp hz]; exact Int.le_refl _
  · intro y
    by_cases q : y = Str.ofString "value"
    · rw [if_pos q, q]; rfl
    · rw [if_neg q]
  · rintro I i v m₁ news₁ s₁ own hv ⟨rfl, r, u, hr, hmin, hm⟩ hown hoff F₁ N₁
    rw [two_names hm] at F₁
    rw [List.getElem?_map] at hv
    obtain ⟨z, hz, rfl⟩ := Option.map_eq_some_iff.mp hv
    have hzm : z ∈ (Value.ref x₀, n₀) :: rest := .tail _ (List.mem_of_getElem? hz)
    obtain ⟨vr, nr⟩ := r
    obtain ⟨vz, nz⟩ := z
    obtain ⟨xr, rfl⟩ := (hall _ hr).ref
    obtain ⟨xz, rfl⟩ := (hall _ hzm).ref
    dsimp only at hmin F₁
    refine DV.outR (hall _ hr) fun dxr k5 tr τ5 k6 pr τ6 Dr hvr hbr => DV.outR (hall _ hzm) fun dxz k7 tz τ7 k8 pz τ8 Dz hvz hbz => ?_
    change Fr s.heap L' _ _ at F₁
    change News s.heap L' _ _ at N₁
    show wpAny _ _ _ _ _ _
    try k_fold
    k_steps
    · rename News _ _ _ _ => Ne
      rename Fr _ _ _ _ => Fe
      exact LoopStepU.intro Fe Ne hoff ⟨rfl, (.ref xz, nz), some (.ref xz), hzm, min_more hz (fun u hu => by have := hmin u hu; show nz ≤ u.2; omega) (Int.le_refl _), fun y => three_names (by decide)⟩
    · rename News _ _ _ _ => Ne
      rename Fr _ _ _ _ => Fe
      exact LoopStepU.intro Fe Ne hoff ⟨rfl, (.ref xr, nr), some (.ref xz), hr, min_more hz hmin (by show nr ≤ nz; omega), fun y => rfl⟩
  · rintro m₁ news₁ h tk ⟨rfl, r, u, hr, hmin, hm⟩ F₁ N₁
    rw [List.length_map, List.take_length] at hmin
    have F₂ := F₁
    rw [funext hm] at F₂
    clear F₁
    obtain ⟨vr, nr⟩ := r
    obtain ⟨xr, rfl⟩ := (hall _ hr).ref
    dsimp only at F₂
    change Fr s.heap L' _ _ at F₂
    change News s.heap L' _ _ at N₁
    k_steps
    exact ret _ _ _ hr hmin F₂.keep
end

theorem max_more {q : Value × Int} {rest : List (Value × Int)} {i : Nat} {r z : Value × Int} (hz : rest[i]? = some z) (h : ∀ u ∈ q :: rest.take i, u.2 ≤ r.2) (hr : z.2 ≤ r.2) : ∀ u ∈ q :: rest.take (i + 1), u.2 ≤ r.2 := by
  intro u hu
  rw [List.take_add_one, hz, Option.toList_some] at hu
  rcases List.mem_cons.mp hu with rfl | hu
  · exact h _ (.head _)
  · rcases List.mem_append.mp hu with hu | hu
    · exact h _ (.tail _ hu)
    · rw [List.mem_singleton.mp hu]; exact hr

section
variable {w : World} {mean : ExcName → Option Value} {mg mb : Str → Option Value} {A : Around} {s : Shared} {Q E : Value → Shared → Prop}
set_option maxHeartbeats 4000000 in
theorem c_greatest {l : Addr} {q : Value × Int} {rest : List (Value × Int)} (X : (hd.heap_39 w.params).In s.heap) (T : Top view (looseW view [Str.ofString "PaperError"]) mean mg mb s.heap)
    (hl : s.heap.IsList l (q.1 :: rest.map (·.1)).toArray) (hall : ∀ r ∈ q :: rest, DV w s.heap r.1 r.2) (hlen : rest.length ≤ 1000)
    (hh : A.handled = none) (hdp : A.depth + 13 < recursionLimit) (hun : A.units + 160 < cLine)
    (ret : ∀ r h' tk', r ∈ q :: rest → (∀ u ∈ q :: rest, u.2 ≤ r.2) → Keep s.heap h' → Q r.1 { s with heap := h', toks := tk' }) :
    wpAny (model PySem.Challenge.rw_nn0117_01.row.prog w) A (call (.ref 194) [.ref l]) Q E s := by
  (revert X; k_fill; intro X)
  obtain ⟨_, dp, fr, gd, un⟩ := A
  obtain rfl : _ = none := hh
  obtain ⟨v₀, n₀⟩ := q
  obtain ⟨x₀, rfl⟩ := (hall _ (.head _)).ref
  refine DV.outR (hall _ (.head _)) fun dx₀ k1 t₀ τ1 k2 p₀ τ2 D₀ hv₀ hb₀ => ?_
  refine enterP X T (by k_is) (by k_is) (by ktr_room) (binds := [(Str.ofString "values", .ref l)]) (BindsTo.of_eq rfl) (locs rfl) ?_ (by decide) rfl rfl rfl
  intro L' h' F' N'
  try dsimp only
  try k_fold
  k_steps
  · exfalso; omega
  rename News _ _ _ _ => Nk
  rename Fr _ _ _ _ => Fk
  refine Halt.mk (for_madeU (vs := rest.map (·.1)) (fun i m₁ news₁ => news₁ = [(_, listOf (rest.map (·.1)).toArray 0)] ∧ ∃ (r : Value × Int) (u : Option Value), r ∈ (Value.ref x₀, n₀) :: rest ∧ (∀ z ∈ (Value.ref x₀, n₀) :: rest.take i, z.2 ≤ r.2) ∧
    ∀ y, m₁ y = if y = Str.ofString "value" then u else if y = Str.ofString "best" then some r.1 else List.lookup y [(Str.ofString "values", Value.ref l)].reverse) rfl Fk Nk (Nk.isList (.head _)) (Nk _ (.head _)).2.1 ⟨rfl, (Value.ref x₀, n₀), none, .head _, ?_, ?_⟩ ?_ ?_)
  · intro z hz
    rw [List.take_zero] at hz
    rw [List.mem_singleton.mp hz]; exact Int.le_refl _
  · intro y
    by_cases q : y = Str.ofString "value"
    · rw [if_pos q, q]; rfl
    · rw [if_neg q]
  · rintro I i v m₁ news₁ s₁ own hv ⟨rfl, r, u, hr, hmin, hm⟩ hown hoff F₁ N₁
    rw [two_names hm] at F₁
    rw [List.getElem?_map] at hv
    obtain ⟨z, hz, rfl⟩ := Option.map_eq_some_iff.mp hv
    have hzm : z ∈ (Value.ref x₀, n₀) :: rest := .tail _ (List.mem_of_getElem? hz)
    obtain ⟨vr, nr⟩ := r
    obtain ⟨vz, nz⟩ := z
    obtain ⟨xr, rfl⟩ := (hall _ hr).ref
    obtain ⟨xz, rfl⟩ := (hall _ hzm).ref
    dsimp only at hmin F₁
    refine DV.outR (hall _ hr) fun dxr k5 tr τ5 k6 pr τ6 Dr hvr hbr => DV.outR (hall _ hzm) fun dxz k7 tz τ7 k8 pz τ8 Dz hvz hbz => ?_
    change Fr s.heap L' _ _ at F₁
    change News s.heap L' _ _ at N₁
    show wpAny _ _ _ _ _ _
    try k_fold
    k_steps
    · rename News _ _ _ _ => Ne
      rename Fr _ _ _ _ => Fe
      exact LoopStepU.intro Fe Ne hoff ⟨rfl, (.ref xz, nz), some (.ref xz), hzm, max_more hz (fun u hu => by have := hmin u hu; show u.2 ≤ nz; omega) (Int.le_refl _), fun y => three_names (by decide)⟩
    · rename News _ _ _ _ => Ne
      rename Fr _ _ _ _ => Fe
      exact LoopStepU.intro Fe Ne hoff ⟨rfl, (.ref xr, nr), some (.ref xz), hr, max_more hz hmin (by show nz ≤ nr; omega), fun y => rfl⟩
  · rintro m₁ news₁ h tk ⟨rfl, r, u, hr, hmin, hm⟩ F₁ N₁
    rw [List.length_map, List.take_length] at hmin
    have F₂ := F₁
    rw [funext hm] at F₂
    clear F₁
    obtain ⟨vr, nr⟩ := r
    obtain ⟨xr, rfl⟩ := (hall _ hr).ref
    dsimp only at F₂
    change Fr s.heap L' _ _ at F₂
    change News s.heap L' _ _ at N₁
    k_steps
    exact ret _ _ _ hr hmin F₂.keep
end

-- p08_exc
/-- an object of PaintFault: d its dict, t the tuple of its arguments -/
abbrev excO (d : Option Addr) (t : Addr) : Obj := { cls := .ref 59, dict := d, data := .fields #[.ref t, .none, .none, .none, .bool false, .none] }

section
open Builtin Builtin.ObjectAttr
variable {prog : Program} {w : World} {A : Around} {E : Value → Shared → Prop} {s : Shared} {K : Frag} {C B e : Addr} {R : Result → Shared → Prop} {h₀ : Heap} {L : Addr} {m : Str → Option Value} {cd : ClassData}

theorem osaX {ox : Obj} {od : Option Obj} {name : Str} {tk : Tok} {v : Value} (X : K.In s.heap) (I : InstAt s.heap e ox C od) (hc : clsIn K C = some cd) (hm : cd.mro = [.ref C, .ref B, .type "Exception", .type "BaseException", .type "object"])
    (ha : findIn K (.ref C) name = some none)
    (h : ∀ b, wpAny (model prog w) A.in1 (storeInOwnDict (.ref e) (.ref C) (.str name tk) name v b)
      (fun fin s' => match fin with | .done f => R (.ok f) s' | .again c' => c'.quiet = true ∧ codeAny (model prog w) A c' R s') (fun e s' => R (.error e) s') s) :
    codeAny (model prog w) A (.call (.builtin "object.__setattr__") ⟨[.ref e, .str name tk, v], []⟩) R s := by
  have SF := PySem.F.store_Exception
  have sub : Looks (model prog w) s.heap (isInstance (.ref e) (.type "object")) true := I.type.andThen (looks_mroIn X (by unfold mroIn; rw [hc, Option.bind_some, if_neg (by rw [hm]; simp), hm]; simp))
  refine codeAny_call_builtin SF.slot.plain SF.entry (@check_slot (model prog w) _ _ s "object.__setattr__" "object" "__setattr__" (.ref e) [.str name tk, v] [] _ SF.kind SF.split sub (SF.args (.ref e) (.str name tk) v) ?_)
  have hmr : Looks (model prog w) s.heap (mroOf (.ref C)) cd.mro := (looks_clsIn X hc).andThen .now
  have L3 : Looks (model prog w) s.heap (storeTaker? none) none := .now
  rw [osa_eq, refuse_eq]
  refine wpAny_bind (wpAny_bind (I.type.here (wpAny_bind (hmr.here ?_))))
  rw [hm, refuseLoop_ref, refuseLoop_ref, SF.passes]
  refine wpAny_pure (wpAny_bind (I.type.here (wpAny_bind ((looks_findIn X ha).here (wpAny_bind (L3.here ?_))))))
  exact h _

/-- the first store into an exception's dict makes the dict -/
theorem excStore0 {name : Str} {v : Value} {t : Addr} {Q : Unit → Shared → Prop} (X : K.In s.heap) (he : s.heap.get? e = some (excO none t)) (hc : clsIn K 59 = some cd) (hm : cd.mro = [.ref 59, .ref B, .type "Exception", .type "BaseException", .type "object"]) (hdict : cd.hasDict = true)
    (hs : findIn K (.ref 59) "__setattr__" = some (some (.builtin "object.__setattr__"))) (ha : findIn K (.ref 59) name = some none)
    (h : ∀ h' dx tk', h'.get? e = some (excO (some dx) t) → s.heap.get? dx = none → h'.Ns1 dx (fun x => if x = name then some v else none) → (∀ b o, b ≠ e → s.heap.get? b = some o → h'.get? b = some o) → Q () { s with heap := h', toks := tk' }) :
    wpAny (model prog w) A (setAttr (.ref e) name v) Q E s := by
  have I : InstAt s.heap e (excO none t) 59 none := ⟨he, rfl, rfl, trivial⟩
  refine set_plain X I hs (osaX (s := { s with toks := s.toks + 1 }) X I hc hm ha fun b => ?_)
  obtain ⟨hh, g, d, tt, os⟩ := s
  dsimp only at he X h ⊢
  refine wpAny_bind (wpAny_pure (wpAny_bind (wpAny_bind (wpAny_loadPart he (wpAny_bind ((looks_clsIn X hc).here ?_))))))
  rw [hdict]
  have hx₁ : (hh.push { cls := .type "dict", data := .dict #[] }).get? e = some (excO none t) := Heap.get?_push_of_some _ he
  have hxs : e ≠ hh.objs.size := Nat.ne_of_lt (Heap.lt_size he)
  show wpAny _ _ (alloc { cls := .type "dict", data := .dict #[] } >>= fun d => update e (fun o => { cls := o.cls, dict := some d, data := o.data, slots := o.slots }) >>= fun _ => pure (some d)) _ _ _
  refine wpAny_bind (wpAny_alloc' (wpAny_bind (wpAny_update' hx₁ (wpAny_pure ?_))))
  have hgd : ((hh.push { cls := .type "dict", data := .dict #[] }).update e fun o => { cls := o.cls, dict := some hh.objs.size, data := o.data, slots := o.slots }).get? hh.objs.size
      = some { cls := .type "dict", data := .dict #[] } :=
    (Heap.get?_update_ne _ _ _ _ hxs.symm).trans (Heap.get?_push_at rfl rfl)
  have hge : ((hh.push { cls := .type "dict", data := .dict #[] }).update e fun o => { cls := o.cls, dict := some hh.objs.size, data := o.data, slots := o.slots }).get? e
      = some (excO (some hh.objs.size) t) := Heap.get?_update_self _ hx₁ rfl
  have hnd : ((hh.push { cls := .type "dict", data := .dict #[] }).update e fun o => { cls := o.cls, dict := some hh.objs.size, data := o.data, slots := o.slots }).Ns hh.objs.size (fun _ => none) :=
    ⟨_, #[], _, hgd, rfl, fun e he => absurd he (by simp), fun _ => rfl⟩
  show wpAny _ _ (storeInDict hh.objs.size (.str name tt) name v) _ _ _
  unfold storeInDict newKeyGuard
  refine wpAny_bind (wpAny_pure (wpAny_bind (wpAny_nsSet1 (Heap.Ns1.of_empty hnd) fun h' hn' hs' => ?_)))
  obtain ⟨oD, esD, epD, hoD, hdD, hcD⟩ := hn'.count (Within.cons name v Within.nil)
  refine wpAny_bind (wpAny_lookBehind hoD (by rw [hdD]; exact pastItsLine_dict (Nat.le_trans hcD (by rw [List.length_cons, List.length_nil, sizeLine_eq]; omega))) ?_)
  refine wpAny_pure (h h' hh.objs.size _ ((hs'.2 e hxs).trans hge) (Heap.get?_none_of_le (Nat.le_refl _)) hn' fun b o hb ho => ?_)
  exact (hs'.2 b (Nat.ne_of_lt (Heap.lt_size ho))).trans ((Heap.get?_update_ne _ _ _ _ hb).trans (Heap.get?_push_of_some _ ho))

/-- a later store -/
theorem excStore1 {name y : Str} {v v₁ : Value} {t dx : Addr} {Q : Unit → Shared → Prop} (X : K.In s.heap) (he : s.heap.get? e = some (excO (some dx) t)) (hn : s.heap.Ns1 dx (fun x => if x = y then some v₁ else none)) (hc : clsIn K 59 = some cd) (hm : cd.mro = [.ref 59, .ref B, .type "Exception", .type "BaseException", .type "object"]) (hdict : cd.hasDict = true)
    (hs : findIn K (.ref 59) "__setattr__" = some (some (.builtin "object.__setattr__"))) (ha : findIn K (.ref 59) name = some none)
    (h : ∀ h' tk', h'.get? e = some (excO (some dx) t) → (∀ b o, b ≠ dx → s.heap.get? b = some o → h'.get? b = some o) → Q () { s with heap := h', toks := tk' }) :
    wpAny (model prog w) A (setAttr (.ref e) name v) Q E s := by
  obtain ⟨oD₀, _, _, hD₀, hDd, _⟩ := id hn
  have hde : e ≠ dx := fun q => by
    rw [← q, he] at hD₀
    obtain rfl := Option.some.inj hD₀
    cases hDd
  have I : InstAt s.heap e (excO (some dx) t) 59 (some oD₀) := ⟨he, rfl, rfl, hD₀⟩
  refine set_plain X I hs (osaX (s := { s with toks := s.toks + 1 }) X I hc hm ha fun b => ?_)
  obtain ⟨hh, g, d, tt, os⟩ := s
  dsimp only at he X h hn ⊢
  refine wpAny_bind (wpAny_pure (wpAny_bind (wpAny_bind (wpAny_loadPart he (wpAny_bind ((looks_clsIn X hc).here ?_))))))
  rw [hdict]
  refine wpAny_pure (a := some dx) ?_
  show wpAny _ _ (storeInDict dx (.str name tt) name v) _ _ _
  unfold storeInDict newKeyGuard
  refine wpAny_bind (wpAny_pure (wpAny_bind (wpAny_nsSet1 hn fun h' hn' hs' => ?_)))
  obtain ⟨oD, esD, epD, hoD, hdD, hcD⟩ := hn'.count (Within.cons name v (Within.cons y v₁ Within.nil))
  refine wpAny_bind (wpAny_lookBehind hoD (by rw [hdD]; exact pastItsLine_dict (Nat.le_trans hcD (by rw [List.length_cons, List.length_cons, List.length_nil, sizeLine_eq]; omega))) ?_)
  exact wpAny_pure (h h' _ ((hs'.2 e hde).trans he) fun b o hb ho => (hs'.2 b hb).trans ho)

theorem excCheck {nm q : Str} {N : Addr} {bs bm : List Value} {hdct : Bool} {sn : List Str} {sub : List Value} {ab : Bool} {col : Option Bool} {dd : Option Addr} {k0 k1 k2 k3 k5 : Option Value} {newId : String} {oe : Obj} {v : Value} {Q : Unit → Shared → Prop}
    (hC : s.heap.get? C = some (excClassObj nm q C N bs bm hdct sn sub ab col dd k0 k1 k2 k3 k5 newId)) (hb : bm.contains (.type "Exception") = true) (he : s.heap.get? e = some oe) (hcls : oe.cls = .ref C) (h : Q () s) :
    wpAny (model prog w) A (checkBuiltinCall "Exception.__init__" ⟨[.ref e, v], []⟩) Q E s := by
  have F := PySem.F.excCall_Exception
  have hcB : (Value.ref C :: bm).contains (.type "Exception") = true := by rw [List.contains_cons, hb, Bool.or_true]
  obtain ⟨hh, g, d, tt, os⟩ := s
  dsimp only at he hC
  simp only [checkBuiltinCall, F.initKind, F.initSplit, F.initRow]
  repeat (first | (with_reducible refine wpAny_loadPart_at he ?_; rw [hcls]) | with_reducible refine wpAny_loadPart_at hC ?_ | (with_reducible refine wpAny_isSubtype_exc hC ?_; rw [hcB]) | wp_step)
  exact h

theorem excBase {e t0 : Addr} {ob : Obj} {vs : Array Value} {v : Value} {Q : Fin → Shared → Prop} (he : s.heap.get? e = some ob) (hd : ob.data = .fields vs) (h0 : vs[0]? = some (.ref t0))
    (h : Q (.done (.ret .none)) { s with heap := (s.heap.push { cls := .type "tuple", data := .seq #[v] }).update e (Obj.mapFields (·.setIfInBounds 0 (.ref s.heap.objs.size))) }) :
    wpAny (model prog w) A (Builtin.«BaseException.__init__» ⟨[.ref e, v], []⟩) Q E s := by
  unfold Builtin.«BaseException.__init__»
  dsimp only
  rw [if_neg (by simp)]
  unfold newTuple Builtin.BaseException.bexcPut
  have hsz : 0 < vs.size := (Array.getElem?_eq_some_iff.mp h0).1
  have he₁ := Heap.get?_push_of_some (h := s.heap) { cls := .type "tuple", data := .seq #[v] } he
  refine wpAny_bind (wpAny_newObj_type (wpAny_bind (wpAny_bind (wpAny_field he₁ hd h0 (wpAny_bind (wpAny_setField he₁ hd hsz ?_))))) (by size_fits))
  exact wpAny_letGo (wpAny_pure h)

/-- Exception.__init__ upon an object of PaintFault -/
theorem excInit {nm q : Str} {N : Addr} {bs bm : List Value} {hdct : Bool} {sn : List Str} {sub : List Value} {ab : Bool} {col : Option Bool} {dd : Option Addr} {k0 k1 k2 k3 k5 : Option Value} {newId : String} {v : Value} {t : Addr} {Q : Value → Shared → Prop}
    (hC : s.heap.get? 59 = some (excClassObj nm q 59 N bs bm hdct sn sub ab col dd k0 k1 k2 k3 k5 newId)) (hb : bm.contains (.type "Exception") = true) (he : s.heap.get? e = some (excO none t))
    (h : ∀ h' t', h'.get? e = some (excO none t') → h'.get? t' = some { cls := .type "tuple", data := .seq #[v] } → s.heap.get? t' = none → (∀ b o, b ≠ e → s.heap.get? b = some o → h'.get? b = some o) → Q .none { s with heap := h' }) :
    wpAny (model prog w) A (call (.builtin "Exception.__init__") [.ref e, v]) Q E s := by
  have F := PySem.F.excCall_Exception
  have hlt := Heap.lt_size he
  refine wpAny_call (codeAny_call_builtin F.init.plain F.initEntry (excCheck hC hb he rfl ?_))
  refine excBase he rfl rfl (h _ s.heap.objs.size ?_ ?_ (Heap.get?_none_of_le (Nat.le_refl _)) fun b o hb ho => ?_)
  · exact Heap.get?_update_self _ (Heap.get?_push_of_some _ he) rfl
  · exact (Heap.get?_update_ne _ _ _ _ (Nat.ne_of_gt hlt)).trans (Heap.get?_push_size _ rfl)
  · exact (Heap.get?_update_ne _ _ _ _ hb).trans (Heap.get?_push_of_some _ ho)

end

section
variable {prog : Program} {w : World} {A : Around} {E : Value → Shared → Prop} {K : Frag} {C e : Addr} {R : Result → Shared → Prop} {h : Heap} {g : Array GenState} {d : Drawn} {tt : Nat} {os : OsState}
variable {nm q : Str} {N fI : Addr} {bs bm : List Value} {hdct : Bool} {sn : List Str} {sub : List Value} {ab : Bool} {col : Option Bool} {dd : Option Addr} {k0 k1 k2 k3 k5 : Option Value}

theorem excNewCheck {rest : List Value} {Q : Unit → Shared → Prop} (hC : h.get? C = some (excClassObj nm q C N bs bm hdct sn sub ab col dd k0 k1 k2 k3 k5 "Exception.__new__")) (hb : bm.contains (.type "Exception") = true)
    (hq : Q () ⟨h, g, d, tt, os⟩) : wpAny (model prog w) A (checkBuiltinCall "Exception.__new__" ⟨.ref C :: rest, []⟩) Q E ⟨h, g, d, tt, os⟩ := by
  have F := PySem.F.excBase_Exception
  have hcont : (Value.ref C :: bm).contains (.type "Exception") = true := by rw [List.contains_cons, hb, Bool.or_true]
  have hstar := F.noStar
  simp only [checkBuiltinCall, F.newKind, F.newSplit, F.newRow]
  repeat (first | refine wpAny_loadPart_at hC ?_ | (refine wpAny_isSubtype_exc hC ?_; rw [hcont]) | refine wpAny_staticBase_exc hC ?_ | refine wpAny_madeBy_exc hC ?_ | simp only [bne_self_eq_false, Bool.false_eq_true, if_false] | wp_step)
  exact hq

theorem excNew {rest : List Value} (hC : h.get? C = some (excClassObj nm q C N bs bm hdct sn sub ab col dd k0 k1 k2 k3 k5 "Exception.__new__")) (hb : bm.contains (.type "Exception") = true)
    (ha : bm.contains (.type "AttributeError") = false) (hn : bm.contains (.type "NameError") = false)
    (hq : R (.ok (.ret (.ref (h.objs.size + 1)))) ⟨(h.push { cls := .type "tuple", data := .seq rest.toArray }).push
      { cls := .ref C, data := .fields #[.ref h.objs.size, .none, .none, .none, .bool false, .none] }, g, d, tt, os⟩) (hrest : rest.length ≤ sizeLine) :
    codeAny (model prog w) A (.builtin "Exception.__new__" ⟨.ref C :: rest, []⟩) R ⟨h, g, d, tt, os⟩ := by
  have F := PySem.F.excBase_Exception
  have hends := F.ends
  have hcB : (Value.ref C :: bm).contains (.type "Exception") = true := by rw [List.contains_cons, hb, Bool.or_true]
  have hcA : (Value.ref C :: bm).contains (.type "AttributeError") = false := by rw [List.contains_cons, ha]; rfl
  have hcN : (Value.ref C :: bm).contains (.type "NameError") = false := by rw [List.contains_cons, hn]; rfl
  refine codeAny_builtinAt F.entry ?_
  unfold Builtin.«BaseException.__new__»
  refine PySem.wpAt_bind ?_
  show PySem.wpAt _ _ _ (stack >>= _) _ _ _
  refine PySem.wpAt_bind (PySem.wpAt_stack fun p below => PySem.wpAt_of_wpAny ?_)
  wp_walk
  refine PySem.wpAt_of_wpAny ?_
  rw [F.owner]
  repeat (first | with_reducible refine wpAny_madeHere_exc F.canon hC ?_ | with_reducible refine wpAny_loadPart_at hC ?_ | (with_reducible refine wpAny_isSubtype_exc hC ?_; first | rw [hcB] | rw [hcA] | rw [hcN]) | wp_step)
  show R _ _
  rw [Heap.size_push]
  exact hq

theorem excTypeCall {rest : List Value} {Q : Fin → Shared → Prop} (X : K.In h) (hC : h.get? C = some (excClassObj nm q C N bs bm hdct sn sub ab col dd k0 k1 k2 k3 k5 "Exception.__new__")) (hb : bm.contains (.type "Exception") = true)
    (ha : bm.contains (.type "AttributeError") = false) (hn : bm.contains (.type "NameError") = false) (hi : findIn K (.ref C) "__init__" = some (some (.ref fI))) (hf : typeIn K (.ref fI) = some (.type "function")) (hrest : rest.length ≤ sizeLine)
    (hq : codeAny (model prog w) A (.call (.ref fI) ⟨.ref (h.objs.size + 1) :: rest, []⟩) (fun r s' => match r with | .ok (.ret v) => v = .none ∧ Q (.done (.ret (.ref (h.objs.size + 1)))) s' | .ok _ => False | .error e => E e s')
      ⟨(h.push { cls := .type "tuple", data := .seq rest.toArray }).push { cls := .ref C, data := .fields #[.ref h.objs.size, .none, .none, .none, .bool false, .none] }, g, d, tt, os⟩) :
    wpAny (model prog w) A (Builtin.«type.__call__» ⟨.ref C :: rest, []⟩) Q E ⟨h, g, d, tt, os⟩ := by
  have F := PySem.F.excBase_Exception
  repeat (first | with_reducible refine wpAny_loadPart_at hC ?_ | with_reducible refine wpAny_madeBy_exc hC ?_ | wp_step)
  refine codeAny_call_builtin_code (Code.quiet_builtin _ F.quiet) (excNewCheck hC hb ?_)
  refine excNew hC hb ha hn ?_ hrest
  show wpAny _ _ _ _ _ _
  have kk : Keep h ((h.push { cls := .type "tuple", data := .seq rest.toArray }).push { cls := .ref C, data := .fields #[.ref h.objs.size, .none, .none, .none, .bool false, .none] }) :=
    fun b o e => Heap.get?_push_of_some _ (Heap.get?_push_of_some _ e)
  have hC₁ := kk _ _ hC
  have X₁ := X.keeps kk
  have hget : ((h.push { cls := .type "tuple", data := .seq rest.toArray }).push
      { cls := .ref C, data := .fields #[.ref h.objs.size, .none, .none, .none, .bool false, .none] }).get? (h.objs.size + 1) = some
      { cls := .ref C, data := .fields #[.ref h.objs.size, .none, .none, .none, .bool false, .none] } := by heap_get
  have hcC : (Value.ref C :: bm).contains (.ref C) = true := by simp
  unfold isInstance
  repeat (first | with_reducible refine wpAny_loadPart_at hget ?_ | (with_reducible refine wpAny_isSubtype_exc hC₁ ?_; rw [hcC]) | wp_step)
  show wpAny _ _ (typeLookup (.ref C) _) _ _ _
  refine (looks_findIn X₁ hi).here ?_
  refine wpAny_holding (wpAny_bind ((bind_fn X₁ _ hf).here (wpAny_bind (wpAny_mono (wpAny_call hq) (fun r s' hr => ?_) fun _ _ x => x))))
  obtain ⟨rfl, hQ⟩ := hr
  wp_walk
  exact hQ

/-- an own exception class is called -/
theorem excMake {rest : List Value} {Q : Value → Shared → Prop} (X : K.In h) (hC : h.get? C = some (excClassObj nm q C N bs bm hdct sn sub ab col dd k0 k1 k2 k3 k5 "Exception.__new__")) (hb : bm.contains (.type "Exception") = true)
    (ha : bm.contains (.type "AttributeError") = false) (hn : bm.contains (.type "NameError") = false) (hi : findIn K (.ref C) "__init__" = some (some (.ref fI))) (hf : typeIn K (.ref fI) = some (.type "function")) (hrest : rest.length ≤ sizeLine)
    (hq : codeAny (model prog w) (A.under (.builtin "type.__call__" ⟨.ref C :: rest, []⟩)) (.call (.ref fI) ⟨.ref (h.objs.size + 1) :: rest, []⟩) (fun r s' => match r with | .ok (.ret v) => v = .none ∧ Q (.ref (h.objs.size + 1)) s' | .ok _ => False | .error e => E e s')
      ⟨(h.push { cls := .type "tuple", data := .seq rest.toArray }).push { cls := .ref C, data := .fields #[.ref h.objs.size, .none, .none, .none, .bool false, .none] }, g, d, tt, os⟩) :
    wpAny (model prog w) A (call (.ref C) rest) Q E ⟨h, g, d, tt, os⟩ := by
  have f1 := tc_lookup
  have f2 := tc_bind (.ref C)
  have hT : (⟨h, g, d, tt, os⟩ : Shared).TypeIs (.ref C) "type" := ⟨_, hC, rfl⟩
  refine wpAny_call (codeAny_of_tree ?_)
  show wpAny _ _ (callAny (.ref C) _) _ _ _
  repeat (any_goals (first | assumption | with_reducible refine wpAny_loadPart_at hC ?_ | wp_step))
  refine ⟨rfl, ?_⟩
  refine codeAny_call_builtin_at (Code.quiet_builtin _ (by decide +kernel)) entry_typeCall (wpAny_check_type_call_sub hC (excTypeCall X hC hb ha hn hi hf hrest ?_))
  exact hq

/-- raise of an object of an own class -/
theorem excRaise {s : Shared} {env : Env} {x : Sem Value} {Q : Flow → Shared → Prop} (hbase : bm.contains (.type "BaseException") = true) (hh : A.handled = none)
    (h : wpAny (model prog w) A x (fun v s₁ => ∃ e t d, v = .ref e ∧ s₁.heap.get? C = some (excClassObj nm q C N bs bm hdct sn sub ab col dd k0 k1 k2 k3 k5 "Exception.__new__") ∧
      s₁.heap.get? e = some { cls := .ref C, dict := d, data := .fields #[.ref t, .none, .none, .none, .bool false, .none] } ∧ E (.ref e) s₁) E s) :
    wpAny (model prog w) A (raiseStmt env (some x) none) Q E s := by
  have hcB : (Value.ref C :: bm).contains (.type "BaseException") = true := by rw [List.contains_cons, hbase, Bool.or_true]
  unfold raiseStmt
  refine wpAny_bind (wpAny_mono h (fun v s₁ h₁ => ?_) fun _ _ x => x)
  obtain ⟨e, t, d, rfl, hC, he, hE⟩ := h₁
  obtain ⟨hp, g, dr, tk, os⟩ := s₁
  repeat (first | with_reducible refine wpAny_loadPart_at he ?_ | with_reducible refine wpAny_loadPart_at hC ?_ | (with_reducible refine wpAny_isSubtype_exc hC ?_; rw [hcB]) | wp_step)
  exact wpAny_raiseNew_none hh hE
end

-- p09_paint
section
variable {h₀ : Heap} {L : Addr} {m : Str → Option Value} {news : List (Addr × Obj)}
theorem fr_but1 {h h' : Heap} {e : Addr} {oe oe' : Obj} {rest : List (Addr × Obj)} (F : Fr h₀ L h m) (N : News h₀ L h ((e, oe) :: rest)) (k : ∀ b o, b ≠ e → h.get? b = some o → h'.get? b = some o) (he : h'.get? e = some oe') (hne : ∀ p ∈ rest, p.1 ≠ e) :
    Fr h₀ L h' m ∧ News h₀ L h' ((e, oe') :: rest) := by
  have D := N (e, oe) (.head _)
  refine ⟨⟨F.ns.at' fun o q => k L o (Ne.symm D.2.1) q, fun b o q => k b o (fun z => by have := D.2.2; rw [← z, q] at this; cases this) (F.keep b o q), F.above⟩, fun p hp => ?_⟩
  rcases List.mem_cons.mp hp with rfl | hp
  · exact ⟨he, D.2⟩
  · exact ⟨k _ _ (hne p hp) (N p (.tail _ hp)).1, (N p (.tail _ hp)).2⟩
end

theorem line_p09_1 : True := by
  (k_with "getMethod type:Exception" => (k_here; refine' method_type ?zqF ?zqX ?zqm (by decide +kernel) ?zqe ?zqh ?_; (case zqF => k_asm); (case zqX => k_asm); (case zqm => kernel_rfl); (case zqe => k_dflt k_is); (case zqh => k_handed)))
  trivial

section
variable {w : World} {mean : ExcName → Option Value} {mg mb : Str → Option Value} {A : Around} {s : Shared} {Q E : Value → Shared → Prop} {R : Result → Shared → Prop}
set_option maxHeartbeats 4000000 in
theorem c_paint_init {e t : Addr} {msg : Str} {tk : Tok} {g : Heap} (hg : Keep g s.heap) (hsz : g.objs.size ≤ s.heap.objs.size) (hn : ∀ q ∈ [(e, excO none t)], s.heap.get? q.1 = some q.2 ∧ g.get? q.1 = none)
    (X : (hd.heap_39 w.params).In g) (T : Top view (looseW view [Str.ofString "PaperError"]) mean mg mb g)
    (hh : A.handled = none) (hdp : A.depth + 5 < recursionLimit) (hun : A.units + 60 < cLine)
    (ret : ∀ h' d t' tk', Keep g h' → h'.get? e = some (excO d t') → R (.ok (.ret .none)) { s with heap := h', toks := tk' }) :
    codeAny (model PySem.Challenge.rw_nn0117_01.row.prog w) A (.call (.ref 36) ⟨[.ref e, .str msg tk], []⟩) R s := by
  (revert X; k_fill; intro X)
  obtain ⟨_, dp, fr, gd, un⟩ := A
  obtain rfl : _ = none := hh
  refine enterG g _ hg hsz hn X T (by k_is) (by k_is) (by ktr_room) (binds := [(Str.ofString "self", .ref e), (Str.ofString "what", .str msg tk), (Str.ofString "at", .int (-1) 209)]) (binds_K (X.keeps hg) rfl (by k_is) rfl rfl rfl) (locs rfl) ?_ (by decide) rfl rfl rfl
  intro L' h' F' N' l1
  try dsimp only
  try k_fold
  k_steps
  refine excInit (X.keeps F'.keep 59 _ (by k_is)) (by decide +kernel) (N' _ (.head _)).1 fun h2 t2 he2 ht2 hn2 k2 => ?_
  obtain ⟨F2, N2⟩ := fr_but1 F' N' k2 he2 (fun _ h => nomatch h)
  clear F' N'
  k_steps
  refine excStore0 (X.keeps F2.keep) (N2 _ (.head _)).1 (by k_is) rfl rfl (by k_is) (by k_is) fun h3 dx tk3 he3 hd3 hs3 k3 => ?_
  obtain ⟨F3, N3⟩ := fr_but1 F2 N2 k3 he3 (fun _ h => nomatch h)
  have hdL := fresh_of F2 hd3
  clear F2 N2
  k_steps
  refine excStore1 (X.keeps F3.keep) he3 hs3 (by k_is) rfl rfl (by k_is) (by k_is) fun h4 tk4 he4 k4 => ?_
  have F4 : Fr g L' h4 _ := ⟨F3.ns.at' fun o q => k4 L' o (Ne.symm hdL.1) q, fun b o q => k4 b o (fun z => by rw [z, hdL.2] at q; cases q) (F3.keep b o q), F3.above⟩
  clear F3 N3
  k_steps
  exact ret _ _ _ _ F4.keep he4
end

section
variable {w : World} {mean : ExcName → Option Value} {mg mb : Str → Option Value} {A : Around} {s : Shared} {Q E : Value → Shared → Prop}
set_option maxHeartbeats 4000000 in
/-- PaintFault(text) -/
theorem c_paint {msg : Str} {tk : Tok} (X : (hd.heap_39 w.params).In s.heap) (T : Top view (looseW view [Str.ofString "PaperError"]) mean mg mb s.heap)
    (hh : A.handled = none) (hdp : A.depth + 7 < recursionLimit) (hun : A.units + 80 < cLine)
    (ret : ∀ e d t h' tk', Keep s.heap h' → h'.get? e = some (excO d t) → s.heap.get? e = none → Q (.ref e) { s with heap := h', toks := tk' }) :
    wpAny (model PySem.Challenge.rw_nn0117_01.row.prog w) A (call (.ref 59) [.str msg tk]) Q E s := by
  (revert X; k_fill; intro X)
  obtain ⟨_, dp, fr, gd, un⟩ := A
  obtain rfl : _ = none := hh
  obtain ⟨hp, g, d, tt, os⟩ := s
  refine excMake (fI := 36) X (X 59 _ (by k_is)) (by decide +kernel) (by decide +kernel) (by decide +kernel) (by k_is) (by k_is) (by size_fits) ?_
  have hget : ((hp.push { cls := .type "tuple", data := .seq #[.str msg tk] }).push (excO none hp.objs.size)).get? (hp.objs.size + 1) = some (excO none hp.objs.size) := by heap_get
  refine c_paint_init (g := hp) (e := hp.objs.size + 1) (t := hp.objs.size) (fun b o e => Heap.get?_push_of_some _ (Heap.get?_push_of_some _ e)) ?_ ?_ X T rfl (by ktr_room) (by show un + (Code.builtin "type.__call__" ⟨[Value.ref 59, Value.str msg tk], []⟩).cUnits + 60 < cLine; have hcu : (Code.builtin "type.__call__" ⟨[Value.ref 59, Value.str msg tk], []⟩).cUnits ≤ 10 := Nat.le_of_ble_eq_true rfl; have hun' : un + 80 < cLine := hun; omega) ?_
  · show hp.objs.size ≤ ((hp.push _).push _).objs.size
    rw [Heap.size_push, Heap.size_push]; omega
  · intro q hq
    obtain rfl := List.mem_singleton.mp hq
    exact ⟨hget, Heap.get?_none_of_le (Nat.le_succ _)⟩
  · intro h' d t' tk' k he
    exact ⟨rfl, ret _ _ _ _ _ k he (Heap.get?_none_of_le (Nat.le_succ _))⟩
end

-- p10_raise
section
variable {prog : Program} {w : World} {A : Around} {E : Value → Shared → Prop} {s s' : Shared} {K : Frag} {p : Program} {loose : List Str} {mean : ExcName → Option Value} {mg mb : Str → Option Value} {base g h : Heap} {l outer : List Env} {L e : Addr} {m : Str → Option Value}

/-- an exception of PaintFault leaves the frame that made it -/
theorem leave_paint {name : Str} {scope : Scope} {a : Addr} {cd : Value} {d : Option Addr} {t : Addr} {Q : Unit → Shared → Prop} (hfr : A.frames = some l) (hkb : base.StaysIn g) (hFF : g.FunFrames base l) (F : Fr g L s'.heap m) (he : s'.heap.get? e = some (excO d t)) (hen : g.get? e = none)
    (hQ : ∀ h', Heap.FlyingW base l e (.ref 59) (.ref t) h' → s'.heap.UpToSlots h' → Q () { s' with heap := h' }) (hk : scope.kind = .function := by rfl) :
    wpAny (model prog w) (A.deeper (envOf name scope L a cd)) (leaving (envOf name scope L a cd) (.ref e)) Q E s' := by
  have hnew : base.get? L = none := by
    cases hq : base.get? L with
    | none => rfl
    | some o => exact absurd (Nat.lt_of_lt_of_le (Heap.lt_size (hkb L o hq)) F.above) (Nat.lt_irrefl _)
  have hbe : base.get? e = none := Keep.none hkb hen
  refine wpAny_leaving_firstW (base := base) (a0 := .ref t) (Around.frames_deeper hfr) ?_ rfl he (fun b o q => F.keep b o (hkb b o q)) hbe rfl rfl rfl fun h' hL => ?_
  · exact .cons (by show scope.kind ≠ .module; rw [hk]; decide) rfl F.ns hnew (hFF.of_keeps fun b o e _ => ⟨o, F.keep b o e, rfl⟩)
  · obtain ⟨k1, ⟨_, _, k2⟩, k3, k4⟩ := hL
    exact hQ h' ⟨k1, hbe, k2, k3⟩ k4

/-- a def that may raise is entered: g is what it keeps, news what the caller hands on -/
theorem enterX {Q : Value → Shared → Prop} {name qual : Str} {params : Arguments} {body : List Stmt} {scope : Scope} {dV kV doc pm cdv ct oc : Value} {an od : Option Addr} {osl : Array (Option Value)} {f : Addr} {vs : List Value} {binds : List (Str × Value)}
    (g : Heap) (news : List (Addr × Obj)) (hg : Keep g s.heap) (hsz : g.objs.size ≤ s.heap.objs.size) (hn : ∀ q ∈ news, s.heap.get? q.1 = some q.2 ∧ g.get? q.1 = none)
    (X : K.In g) (T : Top p loose mean mg mb g)
    (ho : K.lookup f = some ⟨oc, od, .func (fnOf name qual params body scope dV kV doc pm an cdv ct), osl⟩) (hcd : codeIn K cdv qual = true) (hroom : A.depth < recursionLimit)
    (hbind : BindsTo s (fnOf name qual params body scope dV kV doc pm an cdv ct) ⟨vs, []⟩ binds) (hloc : ∀ y ∈ binds, scope.names.lookup y.1 = some .local)
    (h : ∀ L' h₁, Fr g L' h₁ (fun y => binds.reverse.lookup y) → News g L' h₁ news →
      wpAny (model prog w) (A.deeper (envOf qual scope L' f cdv)) (execs body (envOf qual scope L' f cdv))
        (fun fl s' => Q (match fl with | .ret v => v | _ => .none) s')
        (fun e s' => wpAny (model prog w) (A.deeper (envOf qual scope L' f cdv)) (leaving (envOf qual scope L' f cdv) e) (fun _ s'' => E e s'') (fun e' s'' => E e' s'') s')
        { s with heap := h₁, toks := s.toks + binds.length })
    (hcell : ∀ x ∈ scope.names, x.2 ≠ .cell) (hco : scope.isCoroutine = false := by rfl) (hgen : scope.isGenerator = false := by rfl) (hk : scope.kind = .function := by rfl) :
    wpAny (model prog w) A (call (.ref f) vs) Q E s := by
  refine wpAny_call (codeAny_call_def (fd := fnOf name qual params body scope dV kV doc pm an cdv ct) (body := body) (binds := binds) hroom ((X.keeps hg) _ _ ho) rfl (T.keeps hg).nolimit (codeRec_of (X.keeps hg) hcd) rfl hbind hcell hloc (fun h₁ hns hk₁ => ?_) hco hgen hk)
  exact h s.heap.objs.size h₁ ⟨hns, fun b o e => hk₁ b o (hg b o e), hsz⟩ fun q hq => ⟨hk₁ _ _ (hn q hq).1, Nat.ne_of_lt (Heap.lt_size (hn q hq).1), (hn q hq).2⟩

/-- the class PaintFault stands at 59 -/
def ExcAt (h : Heap) : Prop := ∃ (nm q : Str) (N : Addr) (bs bm : List Value) (hdct : Bool) (sn : List Str) (sub : List Value) (ab : Bool) (col : Option Bool) (dd : Option Addr) (k0 k1 k2 k3 k5 : Option Value),
  h.get? 59 = some (excClassObj nm q 59 N bs bm hdct sn sub ab col dd k0 k1 k2 k3 k5 "Exception.__new__") ∧ bm.contains (.type "BaseException") = true
/-- what a raise statement asks of its value -/
def RaiseP (E : Value → Shared → Prop) (v : Value) (s₁ : Shared) : Prop := ∃ e t d, v = .ref e ∧ ExcAt s₁.heap ∧ s₁.heap.get? e = some (excO d t) ∧ E (.ref e) s₁

theorem Raise_paint {env : Env} {x : PySem.Expr} {pos : Pos} {Q : Flow → Shared → Prop} (hh : A.handled = none) (h : wpAny (model prog w) A (eval x env) (RaiseP E) E s) :
    wpAny (model prog w) A (exec (.Raise (some x) none pos) env) Q E s := by
  rw [arm_exec_Raise]
  refine wpAny_bind (wpAny_standAt ?_)
  show wpAny _ _ (raiseStmt env (some (eval x env >>= fun v => standAt pos >>= fun _ => pure v)) none) _ _ _
  unfold raiseStmt
  refine wpAny_bind (wpAny_bind (wpAny_mono h (fun v s₁ h₁ => wpAny_bind (wpAny_standAt (wpAny_pure ?_))) fun _ _ z => z))
  obtain ⟨e, t, d, rfl, ⟨nm, q, N, bs, bm, hdct, sn, sub, ab, col, dd, k0, k1, k2, k3, k5, hC, hbase⟩, he, hE⟩ := h₁
  have hcB : (Value.ref 59 :: bm).contains (.type "BaseException") = true := by rw [List.contains_cons, hbase, Bool.or_true]
  obtain ⟨hp, g, dr, tk, os⟩ := s₁
  repeat (first | with_reducible refine wpAny_loadPart_at he ?_ | with_reducible refine wpAny_loadPart_at hC ?_ | (with_reducible refine wpAny_isSubtype_exc hC ?_; rw [hcB]) | wp_step)
  exact wpAny_raiseNew_none hh hE

/-- it is caught by a clause of its own name -/
theorem caught_paint {env : Env} {x : Str} {np pos : Pos} {a0 : Value} {b₀ : Stmt} {suite : List Stmt} {rest : List ExceptHandler} {nm q : Str} {N : Addr} {bs bm : List Value} {hdct : Bool} {sn : List Str} {sub : List Value} {ab : Bool} {col : Option Bool} {dd : Option Addr} {k0 k1 k2 k3 k5 : Option Value} {newId : String} {Q : Flow → Shared → Prop}
    (hf : env.frame = some L) (hfr : A.frames = some (env :: outer)) (hfl : Heap.FlyingW base (env :: outer) e (.ref 59) a0 s'.heap) (F : Fr base L h m) (hsm : h.UpToSlots s'.heap)
    (hC : base.get? 59 = some (excClassObj nm q 59 N bs bm hdct sn sub ab col dd k0 k1 k2 k3 k5 newId)) (hbase : bm.contains (.type "BaseException") = true)
    (hx : ∀ (A' : Around) (s₁ : Shared) (E' Q' : Value → Shared → Prop), Fr base L s₁.heap m → Q' (.ref 59) s₁ → wpAny (model prog w) A' (eval (.Name x np) env) Q' E' s₁)
    (k : ∀ h', Fr base L h' m → h.UpToSlots h' → wpAny (model prog w) (A.mark (some (.ref e))) (execs (b₀ :: suite) env) Q (fun _ _ => False) { s' with heap := h' }) :
    wpAny (model prog w) A (noteFrame (.ref e) env)
      (fun _ s₂ => wpAny (model prog w) A (setFlight (.ref e) none) (fun _ s₃ =>
        wpAny (model prog w) A (handleBy (.ref e) env (.ExceptHandler (some (.Name x np)) none (b₀ :: suite) pos :: rest)) Q E s₃) E s₂) E s' := by
  refine wpAny_looks_onW hfr hf hfl fun h₄ hheld₄ hsm₄ => ?_
  refine wpAny_landsW hheld₄ fun h₅ hheld hsm₅' => ?_
  have hsm₅ := hsm₄.trans hsm₅'
  have F₅ := F.of_stays hheld.1 (hsm.trans hsm₅)
  obtain ⟨ob, hob, hobc⟩ := hheld.there
  refine wpAny_handleBy_cons (codeAny_handlers_test (hx _ { s' with heap := h₅ } _ _ F₅ ?_)) (by intro q; cases q)
  refine wpAny_excMatches_sub_self (hheld.1 _ _ hC) hob hobc hbase (codeAny_handlers_suite ?_)
  refine lands_againW hheld fun h₆ hfl₆ hsm₆ => ?_
  have F₆ := F.of_stays hfl₆.1 ((hsm.trans hsm₅).trans hsm₆)
  exact wpAny_mono (k h₆ F₆ ((hsm.trans hsm₅).trans hsm₆)) (fun _ _ z => z) fun _ _ z => z.elim
end

theorem excAt {w : World} {h : Heap} (X : (hd.heap_39 w.params).In h) : ExcAt h := by
  have : PySem.Challenge.rw_nn0117_01 = PySem.Challenge.rw_nn0117_01 → ExcAt h := by
    (revert X; k_fill; intro X)
    intro _
    exact ⟨_, _, _, _, _, _, _, _, _, _, _, _, _, _, _, _, X 59 _ (by k_is), by decide +kernel⟩
  exact this rfl

section
variable {w : World} {mean : ExcName → Option Value} {mg mb : Str → Option Value} {A : Around} {s : Shared} {E E' : Value → Shared → Prop} {h₀ : Heap} {L : Addr} {m : Str → Option Value}
theorem k_paint {msg : Str} {tk : Tok} (F : Fr h₀ L s.heap m) (X : (hd.heap_39 w.params).In h₀) (T : Top view (looseW view [Str.ofString "PaperError"]) mean mg mb h₀)
    (hh : A.handled = none) (hdp : A.depth + 7 < recursionLimit) (hun : A.units + 80 < cLine)
    (hE : ∀ e d t h' tk', Fr h₀ L h' m → h'.get? e = some (excO d t) → s.heap.get? e = none → E (.ref e) { s with heap := h', toks := tk' }) :
    wpAny (model PySem.Challenge.rw_nn0117_01.row.prog w) A (call (.ref 59) [.str msg tk]) (RaiseP E) E' s :=
  c_paint (X.keeps F.keep) (T.keeps F.keep) hh hdp hun fun e d t h' tk' k he hen => ⟨e, t, d, rfl, excAt ((X.keeps F.keep).keeps k), he, hE e d t h' tk' (F.keeps k) he hen⟩
end

theorem line_p10_1 : True := by
  (k_with "exec Raise some none" => (k_here; refine Raise_paint rfl ?_))
  trivial
theorem line_p10_2 : True := by
  (k_with "call ref" => (k_here; (with_reducible show wpAny _ _ (call (Value.ref 59) _) _ _ _); refine Halt.out ?_))
  trivial

-- p11_comp
section
open LCg
variable {prog : Program} {w : World} {A : Around} {E : Value → Shared → Prop} {s : Shared} {h₀ : Heap} {L : Addr} {m : Str → Option Value} {env : Env}
theorem CompEnd.imp {s₁ : Shared} {I : Addr} {oI : Obj} {C : Addr} {oC : Obj} {D : Addr} {oD : Obj} {S : List (Addr × Obj) → Prop} {r r' : Value → List (Addr × Obj) → Prop} (hr : ∀ y nw, r y nw → r' y nw) {y : Value} {s₂ : Shared}
    (x : CompEnd h₀ L m s₁ I oI C oC D oD S r y s₂) : CompEnd h₀ L m s₁ I oI C oC D oD S r' y s₂ := by
  obtain ⟨h', tk, nw, a, b, c, d, e, f⟩ := x
  exact ⟨h', tk, nw, a, b, c, d, e, hr _ _ f⟩

/-- a comprehension by an invariant over what is built and the ledger -/
theorem compRest_ind {elt : PySem.Expr} {x : Str} {scope : Scope} {cl : List (Str × Addr)} {S : List (Addr × Obj) → Prop} {P : Nat → Value → Prop} {Fin : List Value → List (Addr × Obj) → Prop} {n : Nat} (J : Nat → List Value → List (Addr × Obj) → Prop)
    (hfin : ∀ ys nw, J n ys nw → Fin ys nw)
    (turn : ∀ i ys nw, i < n → J i ys nw → ∀ v I oI C oC D m₂ h tk (E' : Value → Shared → Prop), P i v → NsObj oC m₂ → m₂ x = some v → Fr h₀ L h m → News h₀ L h ((I, oI) :: (C, oC) :: (D, lst ys) :: nw) → Off3 I C D nw → ((@Ne Nat I C) ∧ (@Ne Nat I D) ∧ (@Ne Nat C D)) →
      wpAny (model prog w) A (eval elt (compEnvC scope cl C env)) (CompEnd h₀ L m { s with heap := h, toks := tk } I oI C oC D (lst ys) S (fun y nw' => J (i + 1) (ys ++ [y]) nw')) E' { s with heap := h, toks := tk }) :
    ∀ k i ys nw, i + k = n → J i ys nw → CompRest prog w A h₀ L m env elt x scope cl s S P Fin k i ys nw
  | 0, i, ys, nw, e, hJ => CompRest.zero (hfin _ _ (by rwa [show i = n from e] at hJ))
  | k + 1, i, ys, nw, e, hJ => CompRest.succ fun v I oI C oC D m₂ h tk E' hv hC hx F N off ne =>
      wpAny_mono (turn i ys nw (by omega) hJ v I oI C oC D m₂ h tk E' hv hC hx F N off ne) (fun _ _ c => CompEnd.imp (fun y nw' hJ' => compRest_ind J hfin turn k (i + 1) (ys ++ [y]) nw' (by omega) hJ') c) fun _ _ z => z
end

section
open LCg
theorem SrcAt.mono {h₀ : Heap} {ax : Addr} {its : Array Value} {nB news : List (Addr × Obj)} (x : SrcAt h₀ ax its nB) (hs : ∀ p ∈ nB, p ∈ news) : SrcAt h₀ ax its news := x.imp id fun ⟨o, hm, r⟩ => ⟨o, hs _ hm, r⟩
theorem comp_src {prog : Program} {w : World} {A : Around} {h₀ : Heap} {L : Addr} {m : Str → Option Value} {env : Env} {elt : PySem.Expr} {x : Str} {scope : Scope} {cl : List (Str × Addr)} {Fin : Shared → List Value → List (Addr × Obj) → Prop} {ax : Addr} {its : Array Value} {nB news : List (Addr × Obj)} {s₁ : Shared}
    (hh : A.handled = none) (F : Fr h₀ L s₁.heap m) (N : News h₀ L s₁.heap news) (hl : SrcAt h₀ ax its nB) (hs : ∀ p ∈ nB, p ∈ news) (hsz : its.size ≤ sizeLine)
    (h : ∀ g, CompRest prog w A h₀ L m env elt x scope cl { s₁ with heap := g } (SrcAt h₀ ax its) (fun i v => its[i]? = some v) (Fin { s₁ with heap := g }) its.size 0 [] news) :
    CompSrc prog w A h₀ L m env elt x scope cl Fin (.ref ax) s₁ := .inl ⟨ax, its, news, rfl, hh, F, N, SrcAt.mono hl hs, hsz, fun _ ⟨g, e⟩ => e ▸ h g⟩
theorem news_out {h₀ h : Heap} {L : Addr} {l : List (Addr × Obj)} (N : News h₀ L h l) : ∀ p ∈ l, h.get? p.1 = some p.2 ∧ h₀.get? p.1 = none := fun p hp => ⟨(N p hp).1, (N p hp).2.2⟩
end
section
open LCg
theorem compEnd_ext {s₁ : Shared} {h₀ h2 h' : Heap} {L I C D : Addr} {m : Str → Option Value} {oI oC oD : Obj} {S : List (Addr × Obj) → Prop} {r : Value → List (Addr × Obj) → Prop} {y : Value} {tk : Nat} {ext nw : List (Addr × Obj)}
    (F : Fr h₀ L h' m) (N : News h₀ L h' ((I, oI) :: (C, oC) :: (D, oD) :: (nw ++ ext))) (hf : ∀ p ∈ ext, h2.get? p.1 = none) (old : ∀ q ∈ (I, oI) :: (C, oC) :: (D, oD) :: nw, h2.get? q.1 = some q.2) (off : Off3 I C D nw) (hS : S (nw ++ ext)) (hr : r y (nw ++ ext)) :
    CompEnd h₀ L m s₁ I oI C oC D oD S r y { s₁ with heap := h', toks := tk } := by
  refine CompEnd.intro F N (nw ++ ext) (fun p hp => hp) (Off3.of fun p hp => ?_) hS hr
  rcases List.mem_append.mp hp with hp | hp
  · exact off.mem p hp
  · have ne : ∀ q ∈ (I, oI) :: (C, oC) :: (D, oD) :: nw, p.1 ≠ q.1 := fun q hq e => by
      have h1 := hf p hp
      rw [e, old q hq] at h1
      cases h1
    exact ⟨ne _ (.head _), ne _ (.tail _ (.head _)), ne _ (.tail _ (.tail _ (.head _)))⟩
end

/-- an object that stays: of the base, or of the ledger -/
def Sto (h₀ : Heap) (news : List (Addr × Obj)) (a : Addr) (o : Obj) : Prop := h₀.get? a = some o ∨ (a, o) ∈ news
theorem Sto.mono {h₀ : Heap} {news news' : List (Addr × Obj)} {a : Addr} {o : Obj} (x : Sto h₀ news a o) (hs : ∀ p ∈ news, p ∈ news') : Sto h₀ news' a o := x.imp id (hs _)
theorem Sto.at {h₀ h : Heap} {L : Addr} {m : Str → Option Value} {news : List (Addr × Obj)} {a : Addr} {o : Obj} (x : Sto h₀ news a o) (F : Fr h₀ L h m) (N : News h₀ L h news) : h.get? a = some o :=
  x.elim (fun e => F.keep _ _ e) fun e => (N _ e).1

/-- a Decimal that stays -/
def DVs (w : World) (h₀ : Heap) (news : List (Addr × Obj)) (v : Value) (n : Int) : Prop :=
  ∃ x dx k1 t τ1 k2 p τ2, v = .ref x ∧ Sto h₀ news x (instObj 155 dx) ∧ Sto h₀ news dx (decD w k1 t τ1 k2 p τ2) ∧ TV t p n ∧ -100000 ≤ n ∧ n ≤ 100000
theorem DVs.mono {w h₀ v n} {news news' : List (Addr × Obj)} (x : DVs w h₀ news v n) (hs : ∀ p ∈ news, p ∈ news') : DVs w h₀ news' v n := by
  obtain ⟨x, dx, k1, t, τ1, k2, p, τ2, e, a, b, c⟩ := x
  exact ⟨x, dx, k1, t, τ1, k2, p, τ2, e, a.mono hs, b.mono hs, c⟩
theorem DVs.at {w v n} {h₀ h : Heap} {L : Addr} {m : Str → Option Value} {news : List (Addr × Obj)} (x : DVs w h₀ news v n) (F : Fr h₀ L h m) (N : News h₀ L h news) : DV w h v n := by
  obtain ⟨x, dx, k1, t, τ1, k2, p, τ2, e, a, b, c⟩ := x
  exact ⟨x, dx, k1, t, τ1, k2, p, τ2, e, ⟨a.at F N, b.at F N⟩, c⟩
theorem DV.base {w v n} {h₀ : Heap} {news : List (Addr × Obj)} (x : DV w h₀ v n) : DVs w h₀ news v n := by
  obtain ⟨x, dx, k1, t, τ1, k2, p, τ2, e, D, c⟩ := x
  exact ⟨x, dx, k1, t, τ1, k2, p, τ2, e, .inl D.inst, .inl D.dict, c⟩

/-- two lists, item by item -/
inductive All2 {α β : Type} (R : α → β → Prop) : List α → List β → Prop
  | nil : All2 R [] []
  | cons {a b as bs} : R a b → All2 R as bs → All2 R (a :: as) (b :: bs)
theorem All2.length {α β : Type} {R : α → β → Prop} : ∀ {as : List α} {bs : List β}, All2 R as bs → as.length = bs.length
  | _, _, .nil => rfl
  | _, _, .cons _ t => congrArg (· + 1) t.length
theorem All2.imp {α β : Type} {R R' : α → β → Prop} (h : ∀ a b, R a b → R' a b) : ∀ {as : List α} {bs : List β}, All2 R as bs → All2 R' as bs
  | _, _, .nil => .nil
  | _, _, .cons x t => .cons (h _ _ x) (t.imp h)
theorem All2.snoc {α β : Type} {R : α → β → Prop} {a : α} {b : β} (x : R a b) : ∀ {as : List α} {bs : List β}, All2 R as bs → All2 R (as ++ [a]) (bs ++ [b])
  | _, _, .nil => .cons x .nil
  | _, _, .cons y t => .cons y (t.snoc x)
theorem All2.get {α β : Type} {R : α → β → Prop} : ∀ {as : List α} {bs : List β}, All2 R as bs → ∀ {i : Nat} {a : α}, as[i]? = some a → ∃ b, bs[i]? = some b ∧ R a b
  | _, _, .nil, _, _, e => by simp at e
  | _, _, .cons x _, 0, _, e => ⟨_, rfl, by simp at e; exact e ▸ x⟩
  | _, _, .cons _ t, i + 1, _, e => by
    rw [List.getElem?_cons_succ] at e ⊢
    exact t.get e

theorem All2.at {α : Type} {R : α → Int → Prop} {as : List α} {bs : List Int} (h : All2 R as bs) {i : Nat} (hi : i < bs.length) : ∃ a, as[i]? = some a ∧ R a (bs.getD i 0) := by
  have hi' : i < as.length := by rw [h.length]; exact hi
  obtain ⟨b, hb, hr⟩ := h.get (i := i) (a := as[i]) (List.getElem?_eq_getElem hi')
  refine ⟨as[i], List.getElem?_eq_getElem hi', ?_⟩
  rw [List.getD_eq_getElem?_getD, hb]
  exact hr
theorem fmod_nat {a b : Nat} : ((a : Int).fmod (b : Int)).toNat = a % b := by
  rw [Int.fmod_eq_emod_of_nonneg _ (Int.natCast_nonneg _)]; omega
theorem fmod_fits {a b : Nat} (hb : 0 < b) (hs : b ≤ 1000) : 0 ≤ (a : Int).fmod (b : Int) ∧ (a : Int).fmod (b : Int) < 2 ^ 63 := by
  rw [Int.fmod_eq_emod_of_nonneg _ (Int.natCast_nonneg _)]
  have h1 := Int.emod_nonneg (a : Int) (b := (b : Int)) (by omega)
  have h2 := Int.emod_lt_of_pos (a : Int) (b := (b : Int)) (by omega)
  omega
/-- a number given: an int, or a Decimal that stays -/
def IVs (w : World) (h₀ : Heap) (news : List (Addr × Obj)) (v : Value) (n : Int) : Prop := ((∃ k τ, v = .int k τ ∧ n = 10 * k) ∨ DVs w h₀ news v n) ∧ -10000 ≤ n ∧ n ≤ 10000
theorem IVs.mono {w : World} {h₀ : Heap} {v : Value} {n : Int} {news news' : List (Addr × Obj)} (x : IVs w h₀ news v n) (hs : ∀ p ∈ news, p ∈ news') : IVs w h₀ news' v n := ⟨x.1.imp id fun d => d.mono hs, x.2⟩

-- p12_tools
/-- the spans, reckoned: k turns may still be made -/
noncomputable def runS (S : List Int) (T : Int) : Nat → Int → Nat → List (Int × Int) → Option (List (Int × Int))
  | 0, at_, _, found => if at_ < T then none else some found
  | k + 1, at_, turn, found => if at_ < T then
      runS S T k (at_ + S.getD (turn % S.length) 0) (turn + 1)
        (if turn % 2 = 0 ∧ (0 < at_ + S.getD (turn % S.length) 0 ∨ 0 ≤ at_) then found ++ [(max at_ 0, min (at_ + S.getD (turn % S.length) 0) T)] else found)
    else some found

def BadS (S : List Int) (P : Int) : Prop := S ≠ [] ∧ ((∃ x ∈ S, x < 0) ∨ (∀ x ∈ S, x ≤ 0) ∨ P < 0)

/-- a span that stands: a tuple of two Decimals -/
def SpanV (w : World) (h : Heap) (v : Value) (q : Int × Int) : Prop := ∃ t x y, v = .ref t ∧ h.get? t = some ({ cls := .type "tuple", data := .seq #[x, y] } : Obj) ∧ DV w h x q.1 ∧ DV w h y q.2
def SpanS (w : World) (h₀ : Heap) (news : List (Addr × Obj)) (v : Value) (q : Int × Int) : Prop := ∃ t x y, v = .ref t ∧ (t, ({ cls := .type "tuple", data := .seq #[x, y] } : Obj)) ∈ news ∧ DVs w h₀ news x q.1 ∧ DVs w h₀ news y q.2
theorem SpanS.mono {w h₀ v q} {news news' : List (Addr × Obj)} (x : SpanS w h₀ news v q) (hs : ∀ p ∈ news, p ∈ news') : SpanS w h₀ news' v q := by
  obtain ⟨t, x, y, e, a, b, c⟩ := x
  exact ⟨t, x, y, e, hs _ a, b.mono hs, c.mono hs⟩
theorem SpanS.at {w v q} {h₀ h : Heap} {L : Addr} {m : Str → Option Value} {news : List (Addr × Obj)} (x : SpanS w h₀ news v q) (F : Fr h₀ L h m) (N : News h₀ L h news) : SpanV w h v q := by
  obtain ⟨t, x, y, e, a, b, c⟩ := x
  exact ⟨t, x, y, e, (N _ a).1, b.at F N, c.at F N⟩


theorem TV.signs {t p n : Int} (h : TV t p n) : (t < 0 ↔ n < 0) ∧ (t = 0 ↔ n = 0) ∧ (0 < t ↔ 0 < n) := by
  rcases h with ⟨_, h⟩ | ⟨_, h, _⟩ <;> (subst h; refine ⟨?_, ?_, ?_⟩ <;> omega)

section
variable {w : World} {mean : ExcName → Option Value} {mg mb : Str → Option Value} {A : Around} {s : Shared} {E : Value → Shared → Prop} {h₀ base : Heap} {L a : Addr} {m : Str → Option Value} {fs : List Env} {name : Str} {scope : Scope} {cd : Value}
/-- a PaintFault is made, raised and leaves the frame -/
theorem k_paint_out {msg : Str} {tk : Tok} {E' : Value → Shared → Prop} (F : Fr h₀ L s.heap m) (X : (hd.heap_39 w.params).In h₀) (T : Top view (looseW view [Str.ofString "PaperError"]) mean mg mb h₀)
    (hk : scope.kind = .function) (hh : A.handled = none) (hfr : A.frames = some fs) (hkb : base.StaysIn h₀) (hFF : h₀.FunFrames base fs)
    (hdp : (A.deeper (envOf name scope L a cd)).depth + 7 < recursionLimit) (hun : (A.deeper (envOf name scope L a cd)).units + 80 < cLine)
    (hE : ∀ e a0 h' tk', Heap.FlyingW base fs e (.ref 59) a0 h' → h₀.UpToSlots h' → E (.ref e) { s with heap := h', toks := tk' }) :
    wpAny (model PySem.Challenge.rw_nn0117_01.row.prog w) (A.deeper (envOf name scope L a cd)) (call (.ref 59) [.str msg tk])
      (RaiseP (fun e s' => wpAny (model PySem.Challenge.rw_nn0117_01.row.prog w) (A.deeper (envOf name scope L a cd)) (leaving (envOf name scope L a cd) e) (fun _ s'' => E e s'') (fun e' s'' => E e' s'') s')) E' s :=
  k_paint F X T hh hdp hun fun e d t h' tk' F' he hen =>
    leave_paint (m := m) hfr hkb hFF F' he (Keep.none F.keep hen) (fun h2 hfl hup => hE e _ h2 tk' hfl ((Heap.UpToSlots.of_keeps F'.keep).trans hup)) hk
end

theorem inst_sto {w : World} {h₀ h : Heap} {L x dx : Addr} {m : Str → Option Value} {own news : List (Addr × Obj)} {k1 τ1 k2 τ2 : Tok} {t p : Int} (F : Fr h₀ L h m) (N : News h₀ L h news) (hx : Sto h₀ own x (instObj 155 dx)) (hd : Sto h₀ own dx (decD w k1 t τ1 k2 p τ2)) (hs : ∀ q ∈ own, q ∈ news) :
    InstAt h x (instObj 155 dx) 155 (some (decD w k1 t τ1 k2 p τ2)) := ⟨(hx.mono hs).at F N, rfl, rfl, (hd.mono hs).at F N⟩

section
variable {w : World} {mean : ExcName → Option Value} {mg mb : Str → Option Value} {A : Around} {s : Shared} {Q E : Value → Shared → Prop} {h₀ : Heap} {L : Addr} {m : Str → Option Value} {news : List (Addr × Obj)}
theorem k_of_iv {V : Value} {n : Int} {nB : List (Addr × Obj)} (F : Fr h₀ L s.heap m) (X : (hd.heap_39 w.params).In h₀) (T : Top view (looseW view [Str.ofString "PaperError"]) mean mg mb h₀) (N : News h₀ L s.heap news)
    (hV : IVs w h₀ nB V n) (hs : ∀ p ∈ nB, p ∈ news) (hh : A.handled = none) (hdp : A.depth + 5 < recursionLimit) (hun : A.units + 60 < cLine)
    (ret : ∀ x dx k1 t τ1 k2 p τ2 h' tk' ext, Fr h₀ L h' m → News h₀ L h' (news ++ ext) → (∀ p ∈ ext, s.heap.get? p.1 = none) → Sto h₀ (nB ++ ext) x (instObj 155 dx) → Sto h₀ (nB ++ ext) dx (decD w k1 t τ1 k2 p τ2) → TV t p n → Q (.ref x) { s with heap := h', toks := tk' }) :
    wpAny (model PySem.Challenge.rw_nn0117_01.row.prog w) A (call (.ref 173) [V]) Q E s := by
  rcases hV with ⟨⟨k, τ, rfl, rfl⟩ | ⟨x, dx, k1, t, τ1, k2, p, τ2, rfl, sx, sd, tv, bb⟩, hb⟩
  · refine c_of_int (X.keeps F.keep) (T.keeps F.keep) hh hdp hun fun x h' tk' t' p' hv k ⟨dx, k1, τ1, k2, τ2, D, h1, h2⟩ => ?_
    refine ret x dx k1 t' τ1 k2 p' τ2 h' tk' [(x, instObj 155 dx), (dx, decD w k1 t' τ1 k2 p' τ2)] (F.keeps k) (News.append (N.keepsAll k) (news_dec F (fun _ h => nomatch h) k D h1 h2)) (fun q hq => ?_) (.inr (List.mem_append.mpr (.inr (.head _)))) (.inr (List.mem_append.mpr (.inr (.tail _ (.head _))))) hv
    rcases List.mem_cons.mp hq with rfl | hq
    · exact h1
    · obtain rfl := List.mem_singleton.mp hq
      exact h2
  · exact c_of_dec (X.keeps F.keep) (T.keeps F.keep) ⟨(sx.mono hs).at F N, (sd.mono hs).at F N⟩ hh hdp hun fun h' tk' k => ret x dx k1 t τ1 k2 p τ2 h' tk' [] (F.keeps k) (by rw [List.append_nil]; exact N.keepsAll k) (fun _ h => nomatch h) (by rw [List.append_nil]; exact sx) (by rw [List.append_nil]; exact sd) tv

theorem k_leastS {l : Addr} {q : Value × Int} {rest : List (Value × Int)} (F : Fr h₀ L s.heap m) (X : (hd.heap_39 w.params).In h₀) (T : Top view (looseW view [Str.ofString "PaperError"]) mean mg mb h₀) (N : News h₀ L s.heap news)
    (hl : s.heap.IsList l (q.1 :: rest.map (·.1)).toArray) (hall : ∀ r ∈ q :: rest, DVs w h₀ news r.1 r.2) (hlen : rest.length ≤ 1000) (hh : A.handled = none) (hdp : A.depth + 13 < recursionLimit) (hun : A.units + 160 < cLine)
    (ret : ∀ x n h' tk', (.ref x, n) ∈ q :: rest → (∀ u ∈ q :: rest, n ≤ u.2) → Fr h₀ L h' m → News h₀ L h' news → Q (.ref x) { s with heap := h', toks := tk' }) :
    wpAny (model PySem.Challenge.rw_nn0117_01.row.prog w) A (call (.ref 187) [.ref l]) Q E s :=
  c_least (X.keeps F.keep) (T.keeps F.keep) hl (fun r hr => (hall r hr).at F N) hlen hh hdp hun fun r h' tk' hr hm k => by
    obtain ⟨v, n⟩ := r
    obtain ⟨x, _, _, _, _, _, _, _, e, _⟩ := hall _ hr
    dsimp only at e
    subst e
    exact ret x n h' tk' hr hm (F.keeps k) (N.keepsAll k)
theorem k_greatestS {l : Addr} {q : Value × Int} {rest : List (Value × Int)} (F : Fr h₀ L s.heap m) (X : (hd.heap_39 w.params).In h₀) (T : Top view (looseW view [Str.ofString "PaperError"]) mean mg mb h₀) (N : News h₀ L s.heap news)
    (hl : s.heap.IsList l (q.1 :: rest.map (·.1)).toArray) (hall : ∀ r ∈ q :: rest, DVs w h₀ news r.1 r.2) (hlen : rest.length ≤ 1000) (hh : A.handled = none) (hdp : A.depth + 13 < recursionLimit) (hun : A.units + 160 < cLine)
    (ret : ∀ x n h' tk', (.ref x, n) ∈ q :: rest → (∀ u ∈ q :: rest, u.2 ≤ n) → Fr h₀ L h' m → News h₀ L h' news → Q (.ref x) { s with heap := h', toks := tk' }) :
    wpAny (model PySem.Challenge.rw_nn0117_01.row.prog w) A (call (.ref 194) [.ref l]) Q E s :=
  c_greatest (X.keeps F.keep) (T.keeps F.keep) hl (fun r hr => (hall r hr).at F N) hlen hh hdp hun fun r h' tk' hr hm k => by
    obtain ⟨v, n⟩ := r
    obtain ⟨x, _, _, _, _, _, _, _, e, _⟩ := hall _ hr
    dsimp only at e
    subst e
    exact ret x n h' tk' hr hm (F.keeps k) (N.keepsAll k)

theorem ne_lens {prog : Program} {l l2 : Addr} {vs vs2 : List Value} {Q : Value → Shared → Prop} (hl : s.heap.IsList l vs.toArray) (hl2 : s.heap.IsList l2 vs2.toArray) (hne : vs.length ≠ vs2.length) (hun : A.units < cLine) (h : Q (.bool true) s) :
    wpAny (model prog w) A (compareOp .NotEq (.ref l) (.ref l2)) Q E s :=
  cmp_ofNotEq (PySem.SeqAt.RcNeAt.lists_lengths hl hl2 (by simpa using hne) hun _ _ _ _ h)
theorem join_test {t : Sem Bool} {P : Prop} {Q : Bool → Shared → Prop} (F : Fr h₀ L s.heap m) (N : News h₀ L s.heap news)
    (h1 : wpAny (model PySem.Challenge.rw_nn0117_01.row.prog w) A t (fun b s' => (b = true ↔ P) ∧ ∃ h' tk', s' = { s with heap := h', toks := tk' } ∧ Fr h₀ L h' m ∧ News h₀ L h' news) E s)
    (h2 : ∀ b h' tk', (b = true ↔ P) → Fr h₀ L h' m → News h₀ L h' news → Q b { s with heap := h', toks := tk' }) : wpAny (model PySem.Challenge.rw_nn0117_01.row.prog w) A t Q E s :=
  wpAny_mono h1 (fun b s' ⟨hb, h', tk', e, F', N'⟩ => by subst e; exact h2 b h' tk' hb F' N') fun _ _ z => z

theorem join_test2 {t : Sem Bool} {P : Prop} {Q : Bool → Shared → Prop} (F : Fr h₀ L s.heap m) (N : News h₀ L s.heap news)
    (h1 : wpAny (model PySem.Challenge.rw_nn0117_01.row.prog w) A t (fun b s' => (b = true ↔ P) ∧ ∃ h' tk', s' = { s with heap := h', toks := tk' } ∧ Fr h₀ L h' m ∧ News h₀ L h' news) E s)
    (hT : ∀ h' tk', P → Fr h₀ L h' m → News h₀ L h' news → Q true { s with heap := h', toks := tk' }) (hF : ∀ h' tk', ¬ P → Fr h₀ L h' m → News h₀ L h' news → Q false { s with heap := h', toks := tk' }) : wpAny (model PySem.Challenge.rw_nn0117_01.row.prog w) A t Q E s :=
  join_test F N h1 fun b h' tk' hb F' N' => by
    cases b
    · exact hF h' tk' (fun z => Bool.noConfusion (hb.mpr z)) F' N'
    · exact hT h' tk' (hb.mp rfl) F' N'

theorem item_any {prog : Program} {value slice : PySem.Expr} {l : Addr} {vs : List Value} {k : Int} {u : Tok} {v : Value} {Q : Value → Shared → Prop}
    (hl : s.heap.IsList l vs.toArray) (h0 : 0 ≤ k) (hhi : k < 2 ^ 63) (hx : vs[k.toNat]? = some v) (h : Q v s)
    (hs : subscripted slice false (.ref l) (.int k u) = operate [.ref l, .int k u] (getItem (.ref l) (.int k u)) := by with_unfolding_all rfl) :
    wpAny (model prog w) A (subscriptTail value slice (.ref l) (.int k u)) Q E s :=
  tail_any hl.typeIs slot_list_getitem.lookup (wpAny_getItem_list hl h0 hhi (by simpa using hx) h) hs

theorem append_any {prog : Program} {D : Addr} {vs : List Value} {c : Nat} {v : Value} {rest : List (Addr × Obj)} {Q : Value → Shared → Prop} (F : Fr h₀ L s.heap m) (N : News h₀ L s.heap ((D, listOf vs.toArray c) :: rest)) (hne : ∀ p ∈ rest, p.1 ≠ D) (hsz : vs.length ≤ 100000)
    (h : ∀ h', Fr h₀ L h' m → News h₀ L h' ((D, listOf (vs ++ [v]).toArray (c + 1)) :: rest) → Q .none { s with heap := h' }) :
    wpAny (model prog w) A (call (.builtin "list.append") [.ref D, v]) Q E s := by
  have D0 := N _ (.head _)
  refine append_at (its := vs.toArray) (n := c) D0.1 (fun h' hs e => h h' (F.change hs D0.2.1 D0.2.2) (News.setHead N hne hs ?_)) (by rw [List.size_toArray, sizeLine_eq]; omega)
  rw [e]
  show some ({ cls := .type "list", data := .seq (vs.toArray.push v) (c + 1) } : Obj) = some { cls := .type "list", data := .seq (vs ++ [v]).toArray (c + 1) }
  rw [List.push_toArray]
theorem eq_lens {prog : Program} {l l2 : Addr} {vs vs2 : List Value} {Q : Value → Shared → Prop} (hl : s.heap.IsList l vs.toArray) (hl2 : s.heap.IsList l2 vs2.toArray) (hne : vs.length ≠ vs2.length) (hun : A.units < cLine) (h : Q (.bool false) s) :
    wpAny (model prog w) A (compareOp .Eq (.ref l) (.ref l2)) Q E s :=
  cmp_ofEq (PySem.SeqAt.RcAt.lists_lengths hl hl2 (by simpa using hne) hun _ _ _ _ h)
end

theorem All2.zip {α β : Type} {R : α → β → Prop} : ∀ {as : List α} {bs : List β}, All2 R as bs → (as.zip bs).map (·.1) = as ∧ (as.zip bs).map (·.2) = bs ∧ ∀ r ∈ as.zip bs, R r.1 r.2
  | _, _, .nil => ⟨rfl, rfl, fun _ h => nomatch h⟩
  | _, _, .cons (a := a) (b := b) (as := as) (bs := bs) x t => by
    obtain ⟨h1, h2, h3⟩ := t.zip
    refine ⟨by rw [List.zip_cons_cons, List.map_cons, h1], by rw [List.zip_cons_cons, List.map_cons, h2], fun r hr => ?_⟩
    rw [List.zip_cons_cons] at hr
    rcases List.mem_cons.mp hr with rfl | hr
    · exact x
    · exact h3 r hr

abbrev Signs (t v : Int) : Prop := (t < 0 ↔ v < 0) ∧ (t = 0 ↔ v = 0) ∧ (0 < t ↔ 0 < v)
theorem sg_le {t v : Int} (h : Signs t v) (q : t ≤ 0) : v ≤ 0 := Int.not_lt.mp fun z => Int.not_lt.mpr q (h.2.2.mpr z)
theorem sg_pos {t v : Int} (h : Signs t v) (q : ¬ t ≤ 0) : 0 < v := h.2.2.mp (Int.not_le.mp q)
theorem sg_neg {t v : Int} (h : Signs t v) (q : t < 0) : v < 0 := h.1.mp q
theorem sg_nn {t v : Int} (h : Signs t v) (q : ¬ t < 0) : 0 ≤ v := Int.not_lt.mp fun z => q (h.1.mpr z)
theorem sg_ne {t v : Int} (h : Signs t v) (q : ¬ t = 0) : v ≠ 0 := fun z => q (h.2.1.mpr z)
theorem cmp_lt {a b r : Int} (h : (a = b ∧ r = 0) ∨ (b < a ∧ r = 1) ∨ (a < b ∧ r = -1)) (q : r < 0) : a < b := by omega
theorem cmp_ge {a b r : Int} (h : (a = b ∧ r = 0) ∨ (b < a ∧ r = 1) ∨ (a < b ∧ r = -1)) (q : ¬ r < 0) : ¬ a < b := by omega
theorem wide {a : Int} (h : -10000 ≤ a ∧ a ≤ 10000) : -100000 ≤ a ∧ a ≤ 100000 := by omega
theorem wide1 {a : Int} (h : -10000 ≤ a ∧ a ≤ 10000) : -100000 ≤ -a ∧ -a ≤ 100000 := by omega
theorem wide2 {a : Int} (h : -10000 ≤ a ∧ a ≤ 10000) : -10000 ≤ -a ∧ -a ≤ 20000 := by omega
theorem none_left {t n : Nat} (h : t + n = 401) (q : 400 < (t : Int)) : n = 0 := by omega
theorem not_bad {S : List Int} {P g : Int} (h0 : ∀ n ∈ S, 0 ≤ n) (hg : g ∈ S) (hz : g ≠ 0) (hp : 0 ≤ P) : ¬ BadS S P := by
  rintro ⟨_, ⟨n, hn, h⟩ | h | h⟩
  · exact absurd h (Int.not_lt.mpr (h0 n hn))
  · exact hz (Int.le_antisymm (h g hg) (h0 g hg))
  · exact absurd h (Int.not_lt.mpr hp)

theorem runS_step {S : List Int} {T an : Int} {k turn : Nat} {found : List (Int × Int)} (h : an < T) : runS S T (k + 1) an turn found =
    runS S T k (an + S.getD (turn % S.length) 0) (turn + 1) (if turn % 2 = 0 ∧ (0 < an + S.getD (turn % S.length) 0 ∨ 0 ≤ an) then found ++ [(max an 0, min (an + S.getD (turn % S.length) 0) T)] else found) := by
  conv => lhs; unfold runS
  rw [if_pos h]
theorem runS_end {S : List Int} {T an : Int} {k turn : Nat} {found : List (Int × Int)} (h : ¬ an < T) : runS S T k an turn found = some found := by
  cases k <;> (unfold runS; rw [if_neg h])

/-- the parts handed on (one copy of the goal, not one a part) -/
theorem DVs.out {w : World} {h₀ : Heap} {news : List (Addr × Obj)} {x : Addr} {n : Int} {P : Prop} (D : DVs w h₀ news (.ref x) n)
    (k : ∀ dx k1 t τ1 k2 p τ2, Sto h₀ news x (instObj 155 dx) → Sto h₀ news dx (decD w k1 t τ1 k2 p τ2) → TV t p n → -1000000 ≤ n ∧ n ≤ 1000000 → (t < 0 ↔ n < 0) ∧ (t = 0 ↔ n = 0) ∧ (0 < t ↔ 0 < n) → P) : P := by
  obtain ⟨x, dx, k1, t, τ1, k2, p, τ2, e, a, b, c, d⟩ := D
  cases e
  exact k dx k1 t τ1 k2 p τ2 a b c ⟨by omega, by omega⟩ c.signs

theorem DVs.ref {w : World} {h₀ : Heap} {news : List (Addr × Obj)} {v : Value} {n : Int} (D : DVs w h₀ news v n) : ∃ x, v = .ref x := let ⟨x, _, _, _, _, _, _, _, e, _⟩ := D; ⟨x, e⟩
/-- what holds between the turns of dash_spans' loop: n turns may still be made -/
def SpanInv (w : World) (h₀ : Heap) (S : List Int) (Tn Pn : Int) (vsS : List Value) (nB : List (Addr × Obj)) (D fl xt : Addr) (bm : Str → Option Value) (n : Nat) (m₁ : Str → Option Value) (news₁ : List (Addr × Obj)) : Prop :=
  ∃ (an : Int) (turn : Nat) (tkt : Tok) (xa : Addr) (u : Option Value) (items : List Value) (found : List (Int × Int)) (c : Nat) (rest : List (Addr × Obj)),
    news₁ = (fl, listOf items.toArray c) :: rest ∧ (∀ p ∈ rest, @Ne Nat p.1 fl) ∧ ((∀ p ∈ nB, p ∈ rest) ∧ (D, LCg.lst vsS) ∈ rest) ∧ All2 (DVs w h₀ rest) vsS S ∧ DVs w h₀ rest (.ref xt) Tn ∧ DVs w h₀ rest (.ref xa) an ∧
    turn + n = 401 ∧ runS S Tn n an turn found = runS S Tn 401 (-Pn) 0 [] ∧ All2 (SpanS w h₀ rest) items found ∧ (-10000 ≤ an ∧ an ≤ 20000) ∧ items.length ≤ turn ∧
    ∀ y, m₁ y = if y = Str.ofString "end" then u else if y = Str.ofString "turn" then some (.int turn tkt) else if y = Str.ofString "at" then some (.ref xa) else
      if y = Str.ofString "found" then some (.ref fl) else if y = Str.ofString "steps" then some (.ref D) else if y = Str.ofString "total" then some (.ref xt) else bm y
theorem SpanInv.start {w : World} {h₀ : Heap} {S : List Int} {Tn Pn : Int} {vsS : List Value} {nB : List (Addr × Obj)} {D fl xt xa : Addr} {bm m : Str → Option Value} {tkt : Tok} {rest : List (Addr × Obj)} (hne : ∀ p ∈ rest, @Ne Nat p.1 fl) (hD : (∀ p ∈ nB, p ∈ rest) ∧ (D, LCg.lst vsS) ∈ rest) (hall : All2 (DVs w h₀ rest) vsS S)
    (hT : DVs w h₀ rest (.ref xt) Tn) (hA : DVs w h₀ rest (.ref xa) (-Pn)) (hb : -10000 ≤ -Pn ∧ -Pn ≤ 20000)
    (hm : ∀ y, m y = if y = Str.ofString "found" then some (.ref fl) else if y = Str.ofString "turn" then some (.int 0 tkt) else if y = Str.ofString "at" then some (.ref xa) else if y = Str.ofString "steps" then some (.ref D) else if y = Str.ofString "total" then some (.ref xt) else bm y) :
    SpanInv w h₀ S Tn Pn vsS nB D fl xt bm 401 m ((fl, listOf #[] 0) :: rest) := by
  refine ⟨-Pn, 0, tkt, xa, bm (Str.ofString "end"), [], [], 0, rest, rfl, hne, hD, hall, hT, hA, rfl, rfl, .nil, hb, Nat.le_refl _, fun y => ?_⟩
  rw [hm]
  by_cases h1 : y = Str.ofString "end"
  · subst h1; rfl
  by_cases h2 : y = Str.ofString "turn"
  · subst h2; rfl
  by_cases h3 : y = Str.ofString "at"
  · subst h3; rfl
  simp only [if_neg h1, if_neg h2, if_neg h3]
theorem SpanInv.out {w : World} {h₀ h : Heap} {L : Addr} {S : List Int} {Tn Pn : Int} {vsS : List Value} {nB : List (Addr × Obj)} {D fl xt : Addr} {bm m₁ : Str → Option Value} {n : Nat} {news₁ : List (Addr × Obj)} {P : Prop} (I : SpanInv w h₀ S Tn Pn vsS nB D fl xt bm n m₁ news₁)
    (F : Fr h₀ L h m₁) (N : News h₀ L h news₁)
    (k : ∀ (an : Int) (turn : Nat) (tkt : Tok) (xa : Addr) (u : Option Value) (items : List Value) (found : List (Int × Int)) (c : Nat) (rest : List (Addr × Obj)),
      Fr h₀ L h (fun y => if y = Str.ofString "end" then u else if y = Str.ofString "turn" then some (.int turn tkt) else if y = Str.ofString "at" then some (.ref xa) else
      if y = Str.ofString "found" then some (.ref fl) else if y = Str.ofString "steps" then some (.ref D) else if y = Str.ofString "total" then some (.ref xt) else bm y) →
      News h₀ L h ((D, LCg.lst vsS) :: (fl, listOf items.toArray c) :: rest) → (∀ p ∈ rest, @Ne Nat p.1 fl) → (∀ p ∈ nB, p ∈ rest) ∧ (D, LCg.lst vsS) ∈ rest → All2 (DVs w h₀ rest) vsS S → DVs w h₀ rest (.ref xt) Tn → DVs w h₀ rest (.ref xa) an →
      turn + n = 401 → runS S Tn n an turn found = runS S Tn 401 (-Pn) 0 [] → All2 (SpanS w h₀ rest) items found → (-10000 ≤ an ∧ an ≤ 20000) → items.length ≤ turn → P) : P := by
  obtain ⟨an, turn, tkt, xa, u, items, found, c, rest, rfl, hne, hD, hallr, hT, hA, hn, hrun, hsp, hb, hil, hm⟩ := I
  rw [funext hm] at F
  exact k an turn tkt xa u items found c rest F (fun p hp => by
    rcases List.mem_cons.mp hp with rfl | hp
    · exact N _ (.tail _ hD.2)
    · exact N _ hp) hne hD hallr hT hA hn hrun hsp hb hil
theorem SpanInv.next {w : World} {h₀ : Heap} {S : List Int} {Tn Pn an sn : Int} {vsS : List Value} {nB : List (Addr × Obj)} {D fl xt xe : Addr} {bm m₂ : Str → Option Value} {n turn c : Nat} {items : List Value} {found found' : List (Int × Int)} {rest : List (Addr × Obj)} {tk : Tok} {u v1 v2 : Option Value}
    (hn : turn + n = 401) (ht : ¬ (400 < (turn : Int))) (hlt : an < Tn) (hrun : runS S Tn n an turn found = runS S Tn 401 (-Pn) 0 []) (hsn : S.getD (turn % S.length) 0 = sn)
    (hf : (if turn % 2 = 0 ∧ (0 < an + sn ∨ 0 ≤ an) then found ++ [(max an 0, min (an + sn) Tn)] else found) = found')
    (hne : ∀ p ∈ rest, @Ne Nat p.1 fl) (hD : (∀ p ∈ nB, p ∈ rest) ∧ (D, LCg.lst vsS) ∈ rest) (hall : All2 (DVs w h₀ rest) vsS S) (hT : DVs w h₀ rest (.ref xt) Tn) (hA : DVs w h₀ rest (.ref xe) (an + sn)) (hsp : All2 (SpanS w h₀ rest) items found')
    (ba : -10000 ≤ an) (bT : -10000 ≤ Tn ∧ Tn ≤ 10000) (bs : 0 ≤ sn ∧ sn ≤ 10000) (hil : items.length ≤ turn + 1)
    (hm : ∀ y, m₂ y = if y = Str.ofString "turn" then some (.int ((turn : Int) + 1) tk) else if y = Str.ofString "at" then some (.ref xe) else if y = Str.ofString "end" then some (.ref xe) else if y = Str.ofString "end" then u else if y = Str.ofString "turn" then v1 else if y = Str.ofString "at" then v2 else
      if y = Str.ofString "found" then some (.ref fl) else if y = Str.ofString "steps" then some (.ref D) else if y = Str.ofString "total" then some (.ref xt) else bm y) :
    n - 1 < n ∧ SpanInv w h₀ S Tn Pn vsS nB D fl xt bm (n - 1) m₂ ((fl, listOf items.toArray c) :: rest) := by
  obtain ⟨n, rfl⟩ : ∃ n', n = n' + 1 := ⟨n - 1, by omega⟩
  refine ⟨Nat.lt_succ_self _, ?_⟩
  rw [Nat.add_sub_cancel]
  refine ⟨an + sn, turn + 1, tk, xe, some (.ref xe), items, found', c, rest, rfl, hne, hD, hall, hT, hA, by omega, ?_, hsp, ⟨by omega, by omega⟩, hil, fun y => ?_⟩
  · rw [← hrun, runS_step hlt, hsn, hf]
  rw [hm]
  by_cases h1 : y = Str.ofString "end"
  · subst h1; rfl
  by_cases h2 : y = Str.ofString "turn"
  · subst h2; rfl
  by_cases h3 : y = Str.ofString "at"
  · subst h3; rfl
  simp only [if_neg h1, if_neg h2, if_neg h3]
theorem News.front9 {h₀ h : Heap} {L : Addr} {a b c d e f g i j : Addr × Obj} {rest : List (Addr × Obj)} (N : News h₀ L h (a :: b :: c :: d :: e :: f :: g :: i :: j :: rest)) : News h₀ L h (j :: a :: d :: e :: f :: g :: rest) := fun p hp => N p (by
  simp only [List.mem_cons] at hp ⊢
  rcases hp with h | h | h | h | h | h | h <;> simp only [h, true_or, or_true])
theorem News.front4 {h₀ h : Heap} {L : Addr} {a b c d : Addr × Obj} {rest : List (Addr × Obj)} (N : News h₀ L h (a :: b :: c :: d :: rest)) : News h₀ L h (d :: a :: b :: rest) := fun p hp => N p (by
  simp only [List.mem_cons] at hp ⊢
  rcases hp with h | h | h | h <;> simp only [h, true_or, or_true])
theorem ne_cls {h₀ h : Heap} {L a fl : Addr} {o o' : Obj} {news : List (Addr × Obj)} (N : News h₀ L h news) (ha : (a, o) ∈ news) (hf : (fl, o') ∈ news) (hne : o.cls ≠ o'.cls) : @Ne Nat a fl :=
  News.twoPlaces N ha hf fun e => hne (congrArg Obj.cls e)
theorem hne_dec {w : World} {h₀ h : Heap} {L fl x dx : Addr} {its : Array Value} {c : Nat} {k1 τ1 k2 τ2 : Tok} {t p : Int} {rest : List (Addr × Obj)} (N : News h₀ L h ((fl, listOf its c) :: (x, instObj 155 dx) :: (dx, decD w k1 t τ1 k2 p τ2) :: rest)) (hr : ∀ q ∈ rest, @Ne Nat q.1 fl) :
    ∀ q ∈ (x, instObj 155 dx) :: (dx, decD w k1 t τ1 k2 p τ2) :: rest, @Ne Nat q.1 fl := fun q hq => by
  rcases List.mem_cons.mp hq with rfl | hq
  · exact ne_cls N (.tail _ (.head _)) (.head _) (fun e => nomatch (show Value.ref 155 = Value.type "list" from e))
  · rcases List.mem_cons.mp hq with rfl | hq
    · exact ne_cls N (.tail _ (.tail _ (.head _))) (.head _) (fun e => absurd (Value.type.inj (show Value.type "dict" = Value.type "list" from e)) (by decide))
    · exact hr q hq
theorem hne_five {w : World} {h₀ h : Heap} {L fl T x dx x2 dx2 : Addr} {its its2 : Array Value} {c : Nat} {k1 τ1 k2 τ2 k3 τ3 k4 τ4 : Tok} {t p t2 p2 : Int} {rest : List (Addr × Obj)}
    (N : News h₀ L h ((fl, listOf its c) :: (T, ({ cls := .type "tuple", data := .seq its2 } : Obj)) :: (x, instObj 155 dx) :: (dx, decD w k1 t τ1 k2 p τ2) :: (x2, instObj 155 dx2) :: (dx2, decD w k3 t2 τ3 k4 p2 τ4) :: rest)) (hr : ∀ q ∈ rest, @Ne Nat q.1 fl) :
    ∀ q ∈ (T, ({ cls := .type "tuple", data := .seq its2 } : Obj)) :: (x, instObj 155 dx) :: (dx, decD w k1 t τ1 k2 p τ2) :: (x2, instObj 155 dx2) :: (dx2, decD w k3 t2 τ3 k4 p2 τ4) :: rest, @Ne Nat q.1 fl := fun q hq => by
  rcases List.mem_cons.mp hq with rfl | hq
  · exact ne_cls N (.tail _ (.head _)) (.head _) (fun e => absurd (Value.type.inj (show Value.type "tuple" = Value.type "list" from e)) (by decide))
  · have Na : News h₀ L h ((fl, listOf its c) :: (x, instObj 155 dx) :: (dx, decD w k1 t τ1 k2 p τ2) :: (x2, instObj 155 dx2) :: (dx2, decD w k3 t2 τ3 k4 p2 τ4) :: rest) := fun q hq => N q (by
      rcases List.mem_cons.mp hq with rfl | hq
      · exact .head _
      · exact .tail _ (.tail _ hq))
    have Nb : News h₀ L h ((fl, listOf its c) :: (x2, instObj 155 dx2) :: (dx2, decD w k3 t2 τ3 k4 p2 τ4) :: rest) := fun q hq => N q (by
      rcases List.mem_cons.mp hq with rfl | hq
      · exact .head _
      · exact .tail _ (.tail _ (.tail _ (.tail _ hq))))
    exact hne_dec Na (hne_dec Nb hr) q hq
theorem sub_two {α : Type} {a b : α} {l : List α} (h1 : a ∈ l) (h2 : b ∈ l) : ∀ p ∈ [a, b], p ∈ l := fun p hp => by
  rcases List.mem_cons.mp hp with rfl | hp
  · exact h1
  · rw [List.mem_singleton.mp hp]; exact h2
theorem sub_app {α : Type} {a b l : List α} (h1 : ∀ p ∈ a, p ∈ l) (h2 : ∀ p ∈ b, p ∈ l) : ∀ p ∈ a ++ b, p ∈ l := fun p hp => (List.mem_append.mp hp).elim (h1 p) (h2 p)
theorem two_max {v1 v2 : Value} {a b n : Int} {x : Value} (hm : (x, n) ∈ [(v1, a), (v2, b)]) (h : ∀ u ∈ [(v1, a), (v2, b)], u.2 ≤ n) : n = max a b := by
  have h1 := h _ (.head _)
  have h2 := h _ (.tail _ (.head _))
  dsimp only at h1 h2
  rcases List.mem_cons.mp hm with e | hm
  · have := congrArg Prod.snd e; dsimp only at this; omega
  · have := congrArg Prod.snd (List.mem_singleton.mp hm); dsimp only at this; omega
theorem two_min {v1 v2 : Value} {a b n : Int} {x : Value} (hm : (x, n) ∈ [(v1, a), (v2, b)]) (h : ∀ u ∈ [(v1, a), (v2, b)], n ≤ u.2) : n = min a b := by
  have h1 := h _ (.head _)
  have h2 := h _ (.tail _ (.head _))
  dsimp only at h1 h2
  rcases List.mem_cons.mp hm with e | hm
  · have := congrArg Prod.snd e; dsimp only at this; omega
  · have := congrArg Prod.snd (List.mem_singleton.mp hm); dsimp only at this; omega
theorem two_all {w : World} {h₀ : Heap} {news : List (Addr × Obj)} {v1 v2 : Value} {a b : Int} (h1 : DVs w h₀ news v1 a) (h2 : DVs w h₀ news v2 b) : ∀ r ∈ [(v1, a), (v2, b)], DVs w h₀ news r.1 r.2 := fun r hr => by
  rcases List.mem_cons.mp hr with rfl | hr
  · exact h1
  · rw [List.mem_singleton.mp hr]; exact h2
theorem dvs_new {w : World} {h₀ : Heap} {x dx : Addr} {k1 τ1 k2 τ2 : Tok} {t p n : Int} (h : TV t p n) (hb : -100000 ≤ n ∧ n ≤ 100000) : DVs w h₀ [(x, instObj 155 dx), (dx, decD w k1 t τ1 k2 p τ2)] (.ref x) n :=
  ⟨_, _, _, _, _, _, _, _, rfl, .inr (.head _), .inr (.tail _ (.head _)), h, hb⟩
theorem iffT1 {turn : Nat} {t a b : Int} (h : (turn : Int).fmod 2 = 0) (g : Signs t a) (q : 0 < t) : (true = true ↔ turn % 2 = 0 ∧ (0 < a ∨ 0 ≤ b)) :=
  ⟨fun _ => ⟨by rw [Int.fmod_eq_emod_of_nonneg _ (by decide)] at h; omega, .inl (g.2.2.mp q)⟩, fun _ => rfl⟩
theorem iffT2 {turn : Nat} {t a b : Int} (h : (turn : Int).fmod 2 = 0) (g : Signs t b) (q : 0 ≤ t) : (true = true ↔ turn % 2 = 0 ∧ (0 < a ∨ 0 ≤ b)) :=
  ⟨fun _ => ⟨by rw [Int.fmod_eq_emod_of_nonneg _ (by decide)] at h; omega, .inr (sg_nn g (Int.not_lt.mpr q))⟩, fun _ => rfl⟩
theorem iffF1 {turn : Nat} {t t2 a b : Int} (g : Signs t a) (g2 : Signs t2 b) (q : ¬ 0 < t) (q2 : ¬ 0 ≤ t2) : (false = true ↔ turn % 2 = 0 ∧ (0 < a ∨ 0 ≤ b)) :=
  ⟨(fun h => nomatch h), fun h => h.2.elim (fun z => absurd (g.2.2.mpr z) q) fun z => absurd (g2.1.mp (Int.not_le.mp q2)) (Int.not_lt.mpr z)⟩
theorem iff_lt {a b r : Int} (h : (a = b ∧ r = 0) ∨ (b < a ∧ r = 1) ∨ (a < b ∧ r = -1)) (q : r < 0) : (true = true ↔ a < b) := ⟨fun _ => cmp_lt h q, fun _ => rfl⟩
theorem iff_ge {a b r : Int} (h : (a = b ∧ r = 0) ∨ (b < a ∧ r = 1) ∨ (a < b ∧ r = -1)) (q : ¬ r < 0) : (false = true ↔ a < b) := ⟨(fun h => nomatch h), fun z => (cmp_ge h q z).elim⟩
theorem iff_dec {a b r : Int} (h : (a = b ∧ r = 0) ∨ (b < a ∧ r = 1) ∨ (a < b ∧ r = -1)) : (decide (r < 0) = true ↔ a < b) := by
  rw [decide_eq_true_iff]
  exact ⟨cmp_lt h, fun z => Decidable.byContradiction fun q => cmp_ge h q z⟩
theorem ws2 {h₀ h' : Heap} {L : Addr} {s : Shared} {J : Nat → (Str → Option Value) → List (Addr × Obj) → Prop} {Q : Flow → Shared → Prop} {n n' tk : Nat} {m₂ : Str → Option Value} {news₂ : List (Addr × Obj)} (F : Fr h₀ L h' m₂) (N : News h₀ L h' news₂) (h : n' < n ∧ J n' m₂ news₂) :
    WhileStep2 h₀ L s J Q n .next { s with heap := h', toks := tk } := ⟨_, _, _, _, n', rfl, F, N, h.1, h.2⟩
theorem steps_at {w : World} {h₀ : Heap} {rest : List (Addr × Obj)} {vs : List Value} {S : List Int} {P : Prop} {i : Nat} (h : All2 (DVs w h₀ rest) vs S) (hi : i < S.length)
    (k : ∀ xs sn, S.getD i 0 = sn → vs[i]? = some (.ref xs) → DVs w h₀ rest (.ref xs) sn → P) : P := by
  obtain ⟨v, hv, hd⟩ := h.at hi
  obtain ⟨x, rfl⟩ := hd.ref
  exact k x _ rfl hv hd
theorem iffF2 {turn : Nat} {a b : Int} (h : (turn : Int).fmod 2 ≠ 0) : (false = true ↔ turn % 2 = 0 ∧ (0 < a ∨ 0 ≤ b)) :=
  ⟨(fun h => nomatch h), fun z => (h (by rw [Int.fmod_eq_emod_of_nonneg _ (by decide)]; omega)).elim⟩
theorem ne_rest {h₀ h : Heap} {L fl : Addr} {o : Obj} {rest : List (Addr × Obj)} (N : News h₀ L h ((fl, o) :: rest)) (hne : ∀ p ∈ rest, p.2 ≠ o) : ∀ p ∈ rest, @Ne Nat p.1 fl :=
  fun p hp => News.twoPlaces N (.tail _ hp) (.head _) (hne p hp)

theorem News.also {h₀ h : Heap} {L : Addr} {p : Addr × Obj} {news : List (Addr × Obj)} (N : News h₀ L h news) (hp : p ∈ news) : News h₀ L h (p :: news) := fun q hq => by
  rcases List.mem_cons.mp hq with rfl | hq
  · exact N _ hp
  · exact N _ hq
theorem AllLt.out {d : Addr} : ∀ {l : List (Addr × Obj)}, AllLt d l → ∀ p ∈ l, @Ne Nat p.1 d
  | [], _, _, h => nomatch h
  | _ :: _, x, p, h => by
    rcases List.mem_cons.mp h with rfl | h
    · exact Nat.ne_of_lt x.1
    · exact AllLt.out x.2 p h
theorem line_p12_1 : True := by
  (k_with "exec Assign cons ListComp" => ((have hm9 := (by with_reducible assumption : Halt (2 = 2))); clear hm9; refine Halt.out ?_))
  trivial
theorem line_p12_2 : True := by
  (k_with "exec While" => ((have hm9 := (by with_reducible assumption : Halt (3 = 3))); clear hm9; refine Halt.out ?_))
  trivial
theorem line_p12_3 : True := by
  (k_with "call ref" => (k_here; (with_reducible show wpAny _ _ (call (Value.ref 187) [_]) _ _ _); refine Halt.out ?_))
  trivial
theorem line_p12_4 : True := by
  (k_with "call ref" => (k_here; (with_reducible show wpAny _ _ (call (Value.ref 194) [_]) _ _ _); refine Halt.out ?_))
  trivial
theorem line_p12_5 : True := by
  (k_with "call ref" => (k_here; (with_reducible show wpAny _ _ (call (Value.ref 173) [_]) _ _ _); k_dflt (refine' k_of_iv ?zqF ?zqX ?zqT ?zqN ?zqV ?zqS ?zqhh ?zqhd ?zqhu ?_; (case zqF => k_asm); (case zqX => k_asm); (case zqT => k_asm); (case zqN => k_asm); (case zqV => with_reducible assumption); (case zqS => k_extra "sub"); (case zqhh => rfl); (case zqhd => ktr_room); (case zqhu => ktr_units); k_whole); intro x' dx' k1' t' τ1' k2' p' τ2' h' tk' ext' F' N' hf' hx' hd' hv'; (try simp only [List.cons_append] at N'); (try k_sweep)))
  trivial
theorem line_p12_6 : True := by
  (k_with "compareOp NotEq ref ref" => (k_here; (with_reducible show wpAny _ _ (compareOp CmpOp.NotEq (Value.ref _) (Value.ref _)) _ _ _); (with_unfolding_all refine' ne_lens ?zqa ?zqb ?zqc ?zqd ?_; (case zqa => is_list); (case zqb => is_list); (case zqc => (simp only [List.length_cons, List.length_nil]; omega)); (case zqd => ktr_units))))
  trivial
theorem line_p12_7 : True := by
  (k_with "sub1" => (first | (with_reducible assumption) | (refine List.mem_cons_of_mem _ ?_; k_extra "sub1") | (refine List.mem_append.mpr (.inl ?_); k_extra "sub1") | (refine List.mem_append.mpr (.inr ?_); k_extra "sub1")))
  trivial
theorem line_p12_8 : True := by
  (k_with "sub" => (first | (intro _ h; (try have hw9 := hnbw _ h); k_extra "sub1") | (with_reducible refine sub_app ?_ ?_; k_extra "sub"; k_extra "sub")))
  trivial
theorem line_p12_9 : True := by
  (k_with "own inst" => (refine' inst_sto ?zqF ?zqN ?zqa ?zqb ?zqc; (case zqF => k_asm); (case zqN => k_asm); (case zqa => with_reducible assumption); (case zqb => with_reducible assumption); (case zqc => k_extra "sub")))
  trivial
theorem line_p12_10 : True := by
  (k_with "compareOp NotEq ref ref" => (k_here; (with_reducible show wpAny _ _ (compareOp CmpOp.NotEq (Value.ref _) (Value.ref _)) _ _ _); (with_unfolding_all refine' ne_intsK (vs := []) (us := []) (ns := []) (ms := []) ?zqa IntsAre.nil ?zqb IntsAre.nil ?zqd ?_; (case zqa => is_list); (case zqb => is_list); (case zqd => ktr_units); k_whole)))
  trivial
theorem line_p12_11 : True := by
  (k_with "compareOp Eq ref ref" => (k_here; (with_reducible show wpAny _ _ (compareOp CmpOp.Eq (Value.ref _) (Value.ref _)) _ _ _); (with_unfolding_all refine' eq_lens ?zqa ?zqb ?zqc ?zqd ?_; (case zqa => is_list); (case zqb => is_list); (case zqc => (simp only [List.length_cons, List.length_nil]; omega)); (case zqd => ktr_units))))
  trivial
theorem line_p12_12 : True := by
  (k_with "compareOp Eq ref ref" => (k_here; (with_reducible show wpAny _ _ (compareOp CmpOp.Eq (Value.ref _) (Value.ref _)) _ _ _); (with_unfolding_all refine' eq_intsK (vs := []) (us := []) (ns := []) (ms := []) ?zqa IntsAre.nil ?zqb IntsAre.nil ?zqd ?_; (case zqa => is_list); (case zqb => is_list); (case zqd => ktr_units); k_whole)))
  trivial
theorem line_p12_13 : True := by
  (k_with "isTrue BoolOp" => ((have hm9 := (by with_reducible assumption : Halt (0 = 0))); clear hm9; refine Halt.out ?_))
  trivial
theorem line_p12_14 : True := by
  (k_with "subscriptTail" => ((have hm9 := (by with_reducible assumption : Halt (1 = 1))); clear hm9; refine Halt.out ?_))
  trivial
theorem line_p12_15 : True := by
  (k_with "call builtin:list.append" => ((have hm9 := (by with_reducible assumption : Halt (1 = 1))); clear hm9; refine Halt.out ?_))
  trivial

-- p13_spans
section
variable {w : World} {mean : ExcName → Option Value} {mg mb : Str → Option Value} {A : Around} {s : Shared} {Q E : Value → Shared → Prop}
set_option maxHeartbeats 8000000 in
theorem c_spans {V P : Value} {l : Addr} {vs : List Value} {S : List Int} {Tn Pn : Int} {base hB : Heap} {nB : List (Addr × Obj)} {fs : List Env} (hgB : Keep hB s.heap) (hszB : hB.objs.size ≤ s.heap.objs.size) (hnB : ∀ q ∈ nB, s.heap.get? q.1 = some q.2 ∧ hB.get? q.1 = none)
    (X : (hd.heap_39 w.params).In hB) (T : Top view (looseW view [Str.ofString "PaperError"]) mean mg mb hB)
    (hV : IVs w hB nB V Tn) (hl : LCg.SrcAt hB l vs.toArray nB) (hS : All2 (IVs w hB nB) vs S) (hSn : S.length ≤ 100) (hP : IVs w hB nB P Pn)
    (hh : A.handled = none) (hfr : A.frames = some fs) (hkb : base.StaysIn hB) (hFF : hB.FunFrames base fs) (hdp : A.depth + 20 < recursionLimit) (hun : A.units + 240 < cLine)
    (ret : ∀ sp r items c h' tk' rest, ¬ BadS S Pn → ((Tn ≤ 0 ∧ sp = []) ∨ (0 < Tn ∧ S = [] ∧ sp = [(0, Tn)]) ∨ (0 < Tn ∧ S ≠ [] ∧ runS S Tn 401 (-Pn) 0 [] = some sp)) → Keep hB h' →
      (∀ p ∈ (r, listOf (List.toArray items) c) :: rest, h'.get? p.1 = some p.2 ∧ hB.get? p.1 = none) → (∀ p ∈ nB, p ∈ rest) → (∀ p ∈ rest, @Ne Nat p.1 r) → All2 (SpanS w hB rest) items sp → Q (.ref r) { s with heap := h', toks := tk' })
    (raise : ∀ e a0 h' tk', (BadS S Pn ∨ (0 < Tn ∧ S ≠ [] ∧ runS S Tn 401 (-Pn) 0 [] = none)) → Heap.FlyingW base fs e (.ref 59) a0 h' → hB.UpToSlots h' → E (.ref e) { s with heap := h', toks := tk' }) :
    wpAny (model PySem.Challenge.rw_nn0117_01.row.prog w) A (call (.ref 199) [V, .ref l, P]) Q E s := by
  (revert X; k_fill; intro X)
  obtain ⟨_, dp, fr, gd, un⟩ := A
  obtain rfl : _ = none := hh
  obtain rfl : _ = some fs := hfr
  refine enterX hB nB hgB hszB hnB X T (by k_is) (by k_is) (by ktr_room) (binds := [(Str.ofString "length", V), (Str.ofString "lengths", .ref l), (Str.ofString "phase", P)]) (BindsTo.of_eq rfl) (locs rfl) ?_ (by decide) rfl rfl rfl
  intro L' h' F' N'
  have mk2 : Halt (2 = 2) := rfl
  have mk3 : Halt (3 = 3) := rfl
  try dsimp only
  try k_fold
  k_steps
  rename Sto _ _ _ (decD _ _ _ _ _ _ _) => hTd
  rename Sto _ _ _ (instObj _ _) => hTx
  rename TV _ _ _ => hTv
  rename News _ _ _ _ => N1
  rename Fr _ _ _ _ => F1
  generalize hown : nB ++ _ = own1 at N1 hTd hTx
  have hnb1 : ∀ p ∈ nB, p ∈ own1 := fun p hp => by rw [← hown]; exact List.mem_append.mpr (.inl hp)
  clear hown
  refine Halt.mk (LCg.Assign_ListComp_U (F₀ := by k_asm) (by rfl) (by with_unfolding_all rfl) (by rfl) (by decide) (by rfl) (by decide) (by rfl) (by rfl) (by rfl) ?_)
  k_fold
  k_steps
  have hlen := hS.length
  refine comp_src (by rfl) F1 N1 hl hnb1 (by rw [List.size_toArray, sizeLine_eq]; omega) fun g => compRest_ind (fun i ys nw => All2 (DVs w hB nw) ys (S.take i) ∧ ∀ p ∈ own1, p ∈ nw) ?_ ?_ _ 0 [] own1 (Nat.zero_add _) ⟨.nil, fun _ h => h⟩
  · rintro ys nw ⟨hys, hsub⟩
    rw [List.size_toArray, hlen, List.take_length] at hys
    intro D h2 tk2 F2 N2 o2
    replace hTd := hTd.mono hsub
    replace hTx := hTx.mono hsub
    clear F1 N1
    have bT := hV.2
    have hnbw : ∀ p ∈ nB, p ∈ nw := fun p hp => hsub p (hnb1 p hp)
    have sT := hTv.signs
    cases hys with
    | nil =>
      have nb : ¬ BadS [] Pn := fun z => z.1 rfl
      k_steps
      · rename _ < _ ∧ _ => l9
        rename News _ _ _ _ => N9
        exact ret [] _ [] 0 _ _ _ nb (.inl ⟨sg_le sT (by with_reducible assumption), rfl⟩) (Fr.keep (by k_asm)) (news_out N9) (by k_extra "sub") (AllLt.out l9) .nil
      · rename TV _ _ (10 * 0) => hz
        have N9 := (by assumption : News hB L' _ _)
        have F9 := (by assumption : Fr hB L' _ _)
        rename _ < _ ∧ _ => l9
        exact ret [(0, Tn)] _ [.ref _] 0 _ _ _ nb (.inr (.inl ⟨sg_pos sT (by with_reducible assumption), rfl, rfl⟩)) F9.keep (news_out N9) (by k_extra "sub") (AllLt.out l9) (.cons ⟨_, _, _, rfl, .head _, ⟨_, _, _, _, _, _, _, _, rfl, .inr (.tail _ (.head _)), .inr (.tail _ (.tail _ (.head _))), hz, by dsimp only; omega, by dsimp only; omega⟩,
          ⟨_, _, _, _, _, _, _, _, rfl, hTx.mono (by k_extra "sub"), hTd.mono (by k_extra "sub"), hTv, wide bT⟩⟩ .nil)
    | cons hy0 hys' =>
      rename_i y0 n0 ys S'
      obtain ⟨z1, z2, z3⟩ := hys'.zip
      have hall : ∀ r ∈ (y0, n0) :: ys.zip S', DVs w hB nw r.1 r.2 := fun r hr => by
        rcases List.mem_cons.mp hr with rfl | hr
        · exact hy0
        · exact z3 r hr
      have hyl : ys.length ≤ 99 := by
        have h1 := hSn; have h2 := hys'.length; rw [List.length_cons] at h1; omega
      have hln : (ys.zip S').length ≤ 1000 := by
        have h1 := hSn; have h2 := List.length_zip (l₁ := ys) (l₂ := S'); rw [List.length_cons] at h1; omega
      have hbad : ∀ n ∈ n0 :: S', ∃ r ∈ (y0, n0) :: ys.zip S', r.2 = n := fun n hn => by
        rcases List.mem_cons.mp hn with rfl | hn
        · exact ⟨_, .head _, rfl⟩
        · rw [← z2] at hn
          obtain ⟨r, hr, e⟩ := List.mem_map.mp hn
          exact ⟨r, .tail _ hr, e⟩
      have hgood : ∀ r ∈ (y0, n0) :: ys.zip S', r.2 ∈ n0 :: S' := fun r hr => by
        rcases List.mem_cons.mp hr with rfl | hr
        · exact .head _
        · refine .tail _ ?_
          rw [← z2]
          exact List.mem_map.mpr ⟨r, hr, rfl⟩
      k_steps
      refine Halt.mk (k_leastS (q := (y0, n0)) (rest := ys.zip S') (by k_asm) (by k_asm) (by k_asm) (by k_asm) (by rw [z1]; is_list) (fun r hr => (hall r hr).mono fun p hp => List.mem_cons_of_mem _ (List.mem_cons_of_mem _ hp)) hln rfl (by ktr_room) (by ktr_units) ?_)
      rintro xl nl h3 tk3 hml hmin F3 N3
      refine DVs.out (hall _ hml) fun dxl kl1 tl τl1 kl2 pl τl2 a b htl hbl sl => ?_
      k_steps
      · refine Halt.mk (k_paint_out (by k_asm) X T rfl rfl rfl hkb hFF (by ktr_room) (by ktr_units) fun e a0 h' tk' hf hu => raise e a0 h' tk' (.inl ⟨(fun z => nomatch z), .inl ⟨nl, hgood _ hml, sg_neg sl (by with_reducible assumption)⟩⟩) hf hu)
      have hpos : ∀ n ∈ n0 :: S', 0 ≤ n := fun n hn => by
        obtain ⟨r, hr, rfl⟩ := hbad n hn
        exact Int.le_trans (sg_nn sl (by with_reducible assumption)) (hmin r hr)
      clear hmin hml htl sl a b hbl
      refine Halt.mk (k_greatestS (q := (y0, n0)) (rest := ys.zip S') (by k_asm) (by k_asm) (by k_asm) (by k_asm) (by rw [z1]; is_list) (fun r hr => (hall r hr).mono fun p hp => List.mem_cons_of_mem _ (List.mem_cons_of_mem _ hp)) hln rfl (by ktr_room) (by ktr_units) ?_)
      rintro xg ng h4 tk4 hmg hmax F4 N4
      refine DVs.out (hall _ hmg) fun dxg kg1 tg τg1 kg2 pg τg2 a b htg hbg sg => ?_
      k_steps
      · refine Halt.mk (k_paint_out (by k_asm) X T rfl rfl rfl hkb hFF (by ktr_room) (by ktr_units) fun e a0 h' tk' hf hu => raise e a0 h' tk' (.inl ⟨(fun z => nomatch z), .inr (.inl fun n hn => ?_)⟩) hf hu)
        obtain ⟨r, hr, rfl⟩ := hbad n hn
        exact Int.le_trans (hmax r hr) (Int.le_of_eq (sg.2.1.mp (by with_reducible assumption)))
      · refine Halt.mk (k_paint_out (by k_asm) X T rfl rfl rfl hkb hFF (by ktr_room) (by ktr_units) fun e a0 h' tk' hf hu => raise e a0 h' tk' (.inl ⟨(fun z => nomatch z), .inr (.inr ?_)⟩) hf hu)
        rename TV _ _ Pn => hz
        exact sg_neg hz.signs (by with_reducible assumption)
      all_goals
        have nb : ¬ BadS (n0 :: S') Pn := not_bad hpos (hgood _ hmg) (sg_ne sg (by with_reducible assumption)) (by first | (rename TV _ _ Pn => hz; exact sg_nn hz.signs (by with_reducible assumption)) | (rename TV _ _ Pn => hz; clear hz; rename TV _ _ Pn => hz; exact sg_nn hz.signs (by with_reducible assumption)))
      · rename _ < _ ∧ _ => l9
        rename News _ _ _ _ => N9
        exact ret [] _ [] 0 _ _ _ nb (.inl ⟨sg_le sT (by with_reducible assumption), rfl⟩) (Fr.keep (by k_asm)) (news_out N9) (by k_extra "sub") (AllLt.out l9) .nil
      have hposS : ∀ i, i < (n0 :: S').length → 0 ≤ (n0 :: S').getD i 0 ∧ (n0 :: S').getD i 0 ≤ 10000 := fun i hi => by
        rw [List.getD_eq_getElem?_getD, List.getElem?_eq_getElem hi, Option.getD_some]
        refine ⟨hpos _ (List.getElem_mem hi), ?_⟩
        obtain ⟨v, hv⟩ : ∃ v, vs[i]? = some v := ⟨_, List.getElem?_eq_getElem (by rw [hlen]; exact hi)⟩
        obtain ⟨b, hb, hiv⟩ := hS.get hv
        rw [List.getElem?_eq_getElem hi] at hb
        cases hb
        exact hiv.2.2
      have bP := hP.2
      rename Fr _ _ _ _ => Fw
      rename News _ _ _ _ => Nw
      rename TV _ _ (-Pn) => hvA
      refine Halt.mk (While_inv2 (SpanInv w hB (n0 :: S') Tn Pn (y0 :: ys) nB D _ _ (fun y => List.lookup y [(Str.ofString "length", V), (Str.ofString "lengths", .ref l), (Str.ofString "phase", P)].reverse)) (n₀ := 401) Fw Nw
        (SpanInv.start ?_ ⟨by k_extra "sub", by k_mem⟩ ((All2.cons hy0 hys').imp fun _ _ z => z.mono (by k_extra "sub")) ⟨_, _, _, _, _, _, _, _, rfl, hTx.mono (by k_extra "sub"), hTd.mono (by k_extra "sub"), hTv, wide bT⟩ ⟨_, _, _, _, _, _, _, _, rfl, .inr (by k_mem), .inr (by k_mem), hvA, wide1 bP⟩ (wide2 bP) (fun y => rfl)) ?_ PassesOwn.leaving)
      · rename x' < _ ∧ _ => l1
        exact AllLt.out l1
      clear Fw Nw hvA hall hbad hgood hmax hmg htg sg hTx hTd hTv a b z1 z2 z3 hbg
      intro n m₁ news₁ h₁ tk₁ F₁ N₁ I₁
      refine SpanInv.out I₁ F₁ N₁ fun an turn tkt xa u items found c rest F₂ N₂ hne hD hallr hT hA hn hrun hsp hba hil => ?_
      clear I₁ F₁ N₁
      refine DVs.out hT fun dxt kt1 tt τt1 kt2 pt τt2 st1 st2 tvt bt gt => DVs.out hA fun dxa ka1 ta τa1 ka2 pa τa2 sa1 sa2 tva ba ga => ?_
      show wpAny _ _ _ _ _ _
      refine join_test2 (P := an < Tn) F₂ N₂ ?_ (fun h9 tk9 hlt F9 N9 => ?_) fun h9 tk9 hge F9 N9 => ?_
      · k_fold
        k_steps
        all_goals first | assumption | exact iff_dec (by with_reducible assumption) | exact iff_lt (by with_reducible assumption) (by with_reducible assumption) | exact iff_ge (by with_reducible assumption) (by with_reducible assumption)
      · clear F₂ N₂
        have mk0 : Halt (0 = 0) := rfl
        have mk1 : Halt (1 = 1) := rfl
        show wpAny _ _ _ _ _ _
        k_fold
        k_steps
        · refine Halt.mk (k_paint_out (by k_asm) X T rfl rfl rfl hkb hFF (by ktr_room) (by ktr_units) fun e a0 h' tk' hf hu => raise e a0 h' tk' (.inr ⟨sg_pos sT (by with_reducible assumption), (fun z => nomatch z), ?_⟩) hf hu)
          rw [← hrun, none_left hn (by with_reducible assumption)]
          unfold runS
          rw [if_pos hlt]
        · have hSl : (n0 :: S').length = ys.length + 1 := by rw [List.length_cons, hys'.length]
          have hlS : turn % (n0 :: S').length < (n0 :: S').length := Nat.mod_lt _ (by rw [hSl]; exact Nat.succ_pos _)
          have hps := hposS _ hlS
          refine steps_at hallr hlS fun xs sn hsn hv hdv => ?_
          rw [hsn] at hps
          refine Halt.mk (item_any (vs := y0 :: ys) (by is_list) (fmod_fits (Nat.succ_pos _) (by omega)).1 (fmod_fits (Nat.succ_pos _) (by omega)).2 (by rw [fmod_nat, ← hSl]; exact hv) ?_)
          refine DVs.out hdv fun dxs ks1 tsn τs1 ks2 psn τs2 ss1 ss2 tvs bs gs => ?_
          clear mk1 hv hdv gs
          k_steps
          rename Fr _ _ _ _ => Fb
          rename News _ _ _ _ => Nb
          rename TV _ _ (an + sn) => tve
          have ge := tve.signs
          have bE : -100000 ≤ an + sn ∧ an + sn ≤ 100000 := by constructor <;> omega
          have be : -1000000 ≤ an + sn ∧ an + sn ≤ 1000000 := ⟨by omega, by omega⟩
          have hE := dvs_new (w := w) (h₀ := hB) (x := x') (dx := dx') (k1 := k1') (τ1 := τ1') (k2 := k2') (τ2 := τ2') tve bE
          have hneE := hne_dec (News.front4 Nb) hne
          refine Halt.mk (join_test2 (P := turn % 2 = 0 ∧ (0 < an + sn ∨ 0 ≤ an)) Fb Nb ?_ (fun h9 tk9 hb9 F9 N9 => ?_) fun h9 tk9 hb9 F9 N9 => ?_)
          · clear mk0
            show wpAny _ _ _ _ _ _
            k_fold
            k_steps
            all_goals first | assumption | exact iffT1 (by with_reducible assumption) ge (by with_reducible assumption) | exact iffT2 (by with_reducible assumption) ga (by with_reducible assumption) | exact iffF1 ge ga (by with_reducible assumption) (by with_reducible assumption) | exact iffF2 (by with_reducible assumption)
          · clear Fb Nb mk0 tve l1 l2 l3 ge gt ga
            have mk1 : Halt (1 = 1) := rfl
            show wpAny _ _ _ _ _ _
            k_fold
            k_steps
            rename TV _ _ (10 * 0) => tv0
            have h0 := dvs_new (w := w) (h₀ := hB) (x := x') (dx := dx') (k1 := k1') (τ1 := τ1') (k2 := k2') (τ2 := τ2') tv0 ⟨by decide, by decide⟩
            refine Halt.mk (k_greatestS (q := (.ref xa, an)) (rest := [(.ref x', 10 * 0)]) (by k_asm) (by k_asm) (by k_asm) (by k_asm) (News.isList (by k_asm) (by k_mem)) (two_all (hA.mono (by k_extra "sub")) (h0.mono (sub_two (by k_mem) (by k_mem)))) (Nat.le_of_ble_eq_true rfl) rfl (by ktr_room) (by ktr_units) ?_)
            intro xg ng h5 tk5 hmg5 hmax5 F5 N5
            have eg : max an 0 = ng := by have := two_max hmg5 hmax5; simpa using this.symm
            have hG := two_all (hA.mono (fun p hp => List.mem_append.mpr (.inr hp))) (h0.mono (fun p hp => List.mem_append.mpr (.inl hp))) _ hmg5
            clear hmg5 hmax5 tv0
            k_steps
            refine Halt.mk (k_leastS (q := (_, an + sn)) (rest := [(_, Tn)]) (by k_asm) (by k_asm) (by k_asm) (by k_asm) (News.isList (by k_asm) (by k_mem)) (two_all (hE.mono (sub_two (by k_mem) (by k_mem))) (hT.mono (by k_extra "sub"))) (Nat.le_of_ble_eq_true rfl) rfl (by ktr_room) (by ktr_units) ?_)
            intro xl nl h6 tk6 hml6 hmin6 F6 N6
            have el := (two_min hml6 hmin6).symm
            have hL := two_all (hE.mono (fun p hp => List.mem_append.mpr (.inl hp))) (hT.mono (fun p hp => List.mem_append.mpr (.inr hp))) _ hml6
            clear hml6 hmin6
            k_steps
            rename Fr _ _ _ _ => F7
            rename News _ _ _ _ => N7
            have N8 := News.front9 N7
            refine Halt.mk (append_any F7 N8 (hne_five N8 hne) (by omega) fun h8 F9 N9 => ?_)
            clear F7 N7 N8 mk1
            k_steps
            rename Fr _ _ _ _ => Fz
            rename News _ _ _ _ => Nz
            exact ws2 Fz Nz (SpanInv.next hn (by with_reducible assumption) hlt hrun hsn ((if_pos hb9).trans (by rw [eg, el])) (hne_five Nz hne) ⟨fun p hp => .tail _ (.tail _ (.tail _ (.tail _ (.tail _ (hD.1 p hp))))), .tail _ (.tail _ (.tail _ (.tail _ (.tail _ hD.2))))⟩ (hallr.imp fun _ _ z => z.mono (by k_extra "sub")) (hT.mono (by k_extra "sub")) (hE.mono (sub_two (by k_mem) (by k_mem)))
              (All2.snoc (b := (ng, nl)) ⟨_, _, _, rfl, .head _, hG.mono (sub_app (sub_two (by k_mem) (by k_mem)) (by k_extra "sub")), hL.mono (sub_app (sub_two (by k_mem) (by k_mem)) (by k_extra "sub"))⟩ (hsp.imp fun _ _ z => z.mono (by k_extra "sub"))) hba.1 bT hps (by rw [List.length_append]; exact Nat.succ_le_succ hil) (fun y => rfl))
          · clear Fb Nb mk0 tve l1 l2 l3 ge gt ga
            show wpAny _ _ _ _ _ _
            k_fold
            k_steps
            rename Fr _ _ _ _ => F5
            rename News _ _ _ _ => N5
            exact ws2 F5 (News.front4 N5) (SpanInv.next hn (by with_reducible assumption) hlt hrun hsn (if_neg hb9) hneE ⟨fun p hp => .tail _ (.tail _ (hD.1 p hp)), .tail _ (.tail _ hD.2)⟩ (hallr.imp fun _ _ z => z.mono (by k_extra "sub")) (hT.mono (by k_extra "sub")) (hE.mono (sub_two (by k_mem) (by k_mem))) (hsp.imp fun _ _ z => z.mono (by k_extra "sub")) hba.1 bT hps (Nat.le_succ_of_le hil) (fun y => rfl))
      · clear F₂ N₂
        show wpAny _ _ _ _ _ _
        k_steps
        have F9 := (by assumption : Fr hB L' _ _)
        have N9 := (by assumption : News hB L' _ _)
        exact ret found _ items c _ _ rest nb (.inr (.inr ⟨sg_pos sT (by with_reducible assumption), (fun z => nomatch z), by rw [← hrun]; exact runS_end hge⟩)) F9.keep (fun p hp => news_out N9 p (.tail _ hp)) hD.1 hne hsp
  · rintro i ys nw hi ⟨hys, hsub⟩ v I oI C oC D m₂ h2 tk2 E' hv hC hx F2 N2 off ne
    obtain ⟨n, hn, hiv⟩ := hS.get (i := i) (a := v) (by simpa using hv)
    have old := fun q hq => (N2 q hq).1
    have hnbw : ∀ p ∈ nB, p ∈ nw := fun p hp => hsub p (hnb1 p hp)
    show wpAny _ _ _ _ _ _
    k_fold
    k_steps
    rename News _ _ _ _ => N3
    rename Fr _ _ _ _ => F3
    refine compEnd_ext F3 N3 (by assumption) old off (SrcAt.mono hl fun p hp => List.mem_append.mpr (.inl (hnbw p hp))) ⟨?_, fun p hp => List.mem_append.mpr (.inl (hsub p hp))⟩
    rw [List.take_add_one, hn]
    refine All2.snoc (DVs.mono (news := _) ⟨_, _, _, _, _, _, _, _, rfl, by assumption, by assumption, by assumption, wide hiv.2⟩ (sub_app (fun p hp => List.mem_append.mpr (.inl (hnbw p hp))) fun p hp => List.mem_append.mpr (.inr hp))) (hys.imp fun _ _ z => z.mono fun p hp => List.mem_append.mpr (.inl hp))
end

-- p14_draw
/-- the heap without P -/
def sans (h : Heap) (P : Addr) : Heap := h.update P fun o => { o with data := .freed }
theorem sans_ne {h : Heap} {P b : Addr} (hb : b ≠ P) : (sans h P).get? b = h.get? b := Heap.get?_update_ne _ _ _ _ hb
theorem sans_at {h : Heap} {P : Addr} : (sans h P).get? P = none := by
  unfold sans
  cases h with
  | mk objs l =>
    simp only [Heap.update, Heap.get?, Array.getElem?_modify]
    cases objs[P]? <;> simp
theorem sans_size {h : Heap} {P : Addr} : (sans h P).objs.size = h.objs.size := by
  unfold sans
  cases h with
  | mk objs l => simp [Heap.update]
theorem sans_keep {h : Heap} {P : Addr} : Keep (sans h P) h := fun b o e => by
  by_cases q : b = P
  · rw [q, sans_at] at e; cases e
  · rwa [sans_ne q] at e
theorem keep_sans {h₀ h : Heap} {P : Addr} (k : Keep h₀ h) (e : h₀.get? P = none) : Keep h₀ (sans h P) := fun b o q => by
  rw [sans_ne fun z => by rw [z, e] at q; cases q]
  exact k b o q

/-- the pool: its cells at C, the great number, the state, the place -/
abbrev PoolO (C : Addr) (g : Int) (tg : Tok) (st : Int) (ts : Tok) (pl : Int) (tp : Tok) : Obj := listOf #[.ref C, .int g tg, .int st ts, .int pl tp] 0

section
variable {prog : Program} {w : World} {A : Around} {E : Value → Shared → Prop} {s : Shared} {Q : Value → Shared → Prop} {t u : Tok}
theorem mul_left_small {a b : Int} (ha : 0 ≤ a ∧ a < 2147483647) (h : Q (.int (a * b) s.toks) { s with toks := s.toks + 1 }) : wpAny (model prog w) A (binaryOp .Mult (.int a t) (.int b u)) Q E s := by
  refine PyProof.Rows.mul_int h (IntMulOk.of_left (PySem.intBits_le_iff.mpr ?_))
  have : (2 : Nat) ^ 64 = 18446744073709551616 := by decide
  omega
end
theorem line_p14_1 : True := by
  (k_with "binaryOp Mult int int" => (k_here; refine' mul_left_small ?zqa ?_; (case zqa => with_reducible assumption)))
  trivial

theorem item_ints {prog : Program} {w : World} {A : Around} {E : Value → Shared → Prop} {s : Shared} {value slice : PySem.Expr} {l : Addr} {vs : List Value} {ns : List Int} {k : Int} {u : Tok} {Q : Value → Shared → Prop}
    (hi : IntsAre vs ns) (hl : s.heap.IsList l vs.toArray) (h0 : 0 ≤ k) (hk : k < (vs.length : Int)) (hb : vs.length ≤ 1000) (h : ∀ n t, ns[k.toNat]? = some n → Q (.int n t) s)
    (hs : subscripted slice false (.ref l) (.int k u) = operate [.ref l, .int k u] (getItem (.ref l) (.int k u)) := by with_unfolding_all rfl) :
    wpAny (model prog w) A (subscriptTail value slice (.ref l) (.int k u)) Q E s := by
  have hlt : k.toNat < vs.length := by omega
  obtain ⟨n, t, e, en⟩ := hi.at k.toNat _ (List.getElem?_eq_getElem hlt)
  exact item_any hl h0 (by omega) ((List.getElem?_eq_getElem hlt).trans (congrArg some e)) (h _ _ en) hs
theorem fmod_range {x m : Int} (hm : 1 ≤ m) : 0 ≤ x.fmod m ∧ x.fmod m < m := by
  rw [Int.fmod_eq_emod_of_nonneg _ (by omega)]
  exact ⟨Int.emod_nonneg _ (by omega), Int.emod_lt_of_pos _ (by omega)⟩
theorem fdiv_nn {x m : Int} (hx : 0 ≤ x) (hm : 1 ≤ m) : 0 ≤ x.fdiv m := by
  rw [Int.fdiv_eq_ediv_of_nonneg _ (by omega)]
  exact Int.ediv_nonneg hx (by omega)
theorem line_p14_2 : True := by
  (k_with "subscriptTail" => (k_here; (with_reducible show wpAny _ _ (subscriptTail _ _ (Value.ref _) (Value.int _ _)) _ _ _); (with_unfolding_all refine' item_ints ?zqi ?zql ?zqa ?zqb ?zqc ?_; (case zqi => with_reducible assumption); (case zql => is_list); (case zqa => (first | exact And.left (by with_reducible assumption) | omega)); (case zqb => (first | (with_reducible assumption) | omega)); (case zqc => (first | (with_reducible assumption) | omega))); intro n9 t9 hn9))
  trivial
section
variable {w : World} {mean : ExcName → Option Value} {mg mb : Str → Option Value} {A : Around} {s : Shared} {Q E : Value → Shared → Prop} {h₀ : Heap} {L : Addr} {m : Str → Option Value} {pre post : List (Addr × Obj)}
set_option maxHeartbeats 4000000 in
theorem k_draw {P C : Addr} {g st pl most : Int} {tg ts tp tm : Tok} {cs : List Value} {ns : List Int} (F : Fr h₀ L s.heap m) (X : (hd.heap_39 w.params).In h₀) (T : Top view (looseW view [Str.ofString "PaperError"]) mean mg mb h₀)
    (N : News h₀ L s.heap (pre ++ (P, PoolO C g tg st ts pl tp) :: post)) (hne1 : ∀ p ∈ pre, @Ne Nat p.1 P) (hne2 : ∀ p ∈ post, @Ne Nat p.1 P) (hC : s.heap.IsList C cs.toArray) (hCP : @Ne Nat C P) (hi : IntsAre cs ns) (hl : cs.length ≤ 1000)
    (hg : 0 ≤ g) (hst : 0 ≤ st ∧ st < 2147483647) (hpl : 0 ≤ pl ∧ pl < 1000) (hm : 1 ≤ most ∧ most ≤ 100)
    (hh : A.handled = none) (hdp : A.depth + 3 < recursionLimit) (hun : A.units + 40 < cLine)
    (ret : ∀ r t h' tk' g' tg' st' ts' tp', 0 ≤ r ∧ r < most → 0 ≤ g' → 0 ≤ st' ∧ st' < 2147483647 → Fr h₀ L h' m → News h₀ L h' (pre ++ (P, PoolO C g' tg' st' ts' (pl + 1) tp') :: post) → Q (.int r t) { s with heap := h', toks := tk' }) :
    wpAny (model PySem.Challenge.rw_nn0117_01.row.prog w) A (call (.ref 211) [.ref P, .int most tm]) Q E s := by
  have hP := N (P, PoolO C g tg st ts pl tp) (List.mem_append.mpr (.inr (.head _)))
  have hCs : (sans s.heap P).IsList C cs.toArray := by
    obtain ⟨o, e, r⟩ := hC
    exact ⟨o, by rw [sans_ne hCP]; exact e, r⟩
  have back : ∀ r t h' tk' g' tg' st' ts' tp', 0 ≤ r ∧ r < most → 0 ≤ g' → 0 ≤ st' ∧ st' < 2147483647 → Keep (sans s.heap P) h' → h'.get? P = some (PoolO C g' tg' st' ts' (pl + 1) tp') → Q (.int r t) { s with heap := h', toks := tk' } := fun r t h' tk' g' tg' st' ts' tp' hr h1 h2 k e => by
    have kk : ∀ b o, b ≠ P → s.heap.get? b = some o → h'.get? b = some o := fun b o hb q => k b o (by rw [sans_ne hb]; exact q)
    refine ret r t h' tk' g' tg' st' ts' tp' hr h1 h2 ⟨F.ns.at' fun o q => kk L o (Ne.symm hP.2.1) q, fun b o q => kk b o (fun z => by have := hP.2.2; rw [← z, q] at this; cases this) (F.keep b o q), F.above⟩ fun p hp => ?_
    rcases List.mem_append.mp hp with hp | hp
    · exact ⟨kk _ _ (hne1 p hp) (N p (List.mem_append.mpr (.inl hp))).1, (N p (List.mem_append.mpr (.inl hp))).2⟩
    · rcases List.mem_cons.mp hp with rfl | hp
      · exact ⟨e, hP.2⟩
      · exact ⟨kk _ _ (hne2 p hp) (N p (List.mem_append.mpr (.inr (.tail _ hp)))).1, (N p (List.mem_append.mpr (.inr (.tail _ hp)))).2⟩
  have X' := X.keeps (keep_sans F.keep hP.2.2)
  have T' := T.keeps (keep_sans F.keep hP.2.2)
  clear ret X T
  generalize hgs : sans s.heap P = gs at hCs back X' T'
  have hkg : Keep gs s.heap := by rw [← hgs]; exact sans_keep
  have hzg : gs.objs.size ≤ s.heap.objs.size := by rw [← hgs, sans_size]; exact Nat.le_refl _
  have hng : ∀ q ∈ [(P, PoolO C g tg st ts pl tp)], s.heap.get? q.1 = some q.2 ∧ gs.get? q.1 = none := fun q hq => by
    obtain rfl := List.mem_singleton.mp hq
    exact ⟨hP.1, by rw [← hgs]; exact sans_at⟩
  clear hgs F N hP hne1 hne2 hC
  have X := X'
  have T := T'
  clear X' T'
  (revert X; k_fill; intro X)
  obtain ⟨_, dp, fr, gd, un⟩ := A
  obtain rfl : _ = none := hh
  refine wpAny_call (enterG gs [(P, PoolO C g tg st ts pl tp)] hkg hzg hng X T (by k_is) (by k_is) (by ktr_room) (binds := [(Str.ofString "pool", .ref P), (Str.ofString "most", .int most tm)]) (BindsTo.of_eq rfl) (locs rfl) ?_ (by decide) rfl rfl rfl)
  intro L' h' F' N' l1
  have hpl' : 0 ≤ pl ∧ pl < 2147483647 := ⟨hpl.1, by omega⟩
  try dsimp only
  try k_fold
  k_steps
  · exact back _ _ _ _ _ _ _ _ _ (fmod_range hm.1) (fdiv_nn hg hm.1) hst (Fr.keep (by k_asm)) ((‹News _ _ _ _› : News _ _ _ _) _ (.head _)).1
  all_goals exact back _ _ _ _ _ _ _ _ _ (fmod_range hm.1) hg (fmod_range (by decide)) (Fr.keep (by k_asm)) ((‹News _ _ _ _› : News _ _ _ _) _ (.head _)).1
end
theorem line_p14_3 : True := by
  (k_with "all" => (first | (with_reducible assumption) | exact List.forall_mem_nil _ | (refine List.forall_mem_cons.mpr ⟨?_, ?_⟩; (refine neN ?_; (try dsimp only); omega); k_extra "all")))
  trivial
theorem line_p14_4 : True := by
  (k_with "call ref" => (k_here; (with_reducible show wpAny _ _ (call (Value.ref 211) [Value.ref _, Value.int _ _]) _ _ _); k_dflt (refine' k_draw (pre := []) ?zqF ?zqX ?zqT ?zqN ?zqa ?zqb ?zqC ?zqD ?zqi ?zql ?zqg ?zqs ?zqp ?zqm ?zqh ?zqd ?zqu ?_; (case zqF => k_asm); (case zqX => k_asm); (case zqT => k_asm); (case zqN => k_asm); (case zqa => k_extra "all"); (case zqb => k_extra "all"); (case zqC => is_list); (case zqD => (first | (with_reducible assumption) | (refine neN ?_; omega))); (case zqi => with_reducible assumption); (case zql => with_reducible assumption); (case zqg => with_reducible assumption); (case zqs => with_reducible assumption); (case zqp => (first | (with_reducible assumption) | omega)); (case zqm => (first | (with_reducible assumption) | decide | omega)); (case zqh => rfl); (case zqd => ktr_room); (case zqu => ktr_units); k_whole); intro r' t' h' tk' g' tg' st' ts' tp' hr' hg' hst' F' N'; (try simp only [List.nil_append, List.cons_append] at N'); (try k_sweep)))
  trivial
theorem line_p14_5 : True := by
  (k_with "call ref" => (k_here; (with_reducible show wpAny _ _ (call (Value.ref 211) [Value.ref _, Value.int _ _]) _ _ _); k_dflt (refine' k_draw (pre := [_]) ?zqF ?zqX ?zqT ?zqN ?zqa ?zqb ?zqC ?zqD ?zqi ?zql ?zqg ?zqs ?zqp ?zqm ?zqh ?zqd ?zqu ?_; (case zqF => k_asm); (case zqX => k_asm); (case zqT => k_asm); (case zqN => k_asm); (case zqa => k_extra "all"); (case zqb => k_extra "all"); (case zqC => is_list); (case zqD => (first | (with_reducible assumption) | (refine neN ?_; omega))); (case zqi => with_reducible assumption); (case zql => with_reducible assumption); (case zqg => with_reducible assumption); (case zqs => with_reducible assumption); (case zqp => (first | (with_reducible assumption) | omega)); (case zqm => (first | (with_reducible assumption) | decide | omega)); (case zqh => rfl); (case zqd => ktr_room); (case zqu => ktr_units); k_whole); intro r' t' h' tk' g' tg' st' ts' tp' hr' hg' hst' F' N'; (try simp only [List.nil_append, List.cons_append] at N'); (try k_sweep)))
  trivial
theorem line_p14_6 : True := by
  (k_with "call ref" => (k_here; (with_reducible show wpAny _ _ (call (Value.ref 211) [Value.ref _, Value.int _ _]) _ _ _); k_dflt (refine' k_draw (pre := [_, _]) ?zqF ?zqX ?zqT ?zqN ?zqa ?zqb ?zqC ?zqD ?zqi ?zql ?zqg ?zqs ?zqp ?zqm ?zqh ?zqd ?zqu ?_; (case zqF => k_asm); (case zqX => k_asm); (case zqT => k_asm); (case zqN => k_asm); (case zqa => k_extra "all"); (case zqb => k_extra "all"); (case zqC => is_list); (case zqD => (first | (with_reducible assumption) | (refine neN ?_; omega))); (case zqi => with_reducible assumption); (case zql => with_reducible assumption); (case zqg => with_reducible assumption); (case zqs => with_reducible assumption); (case zqp => (first | (with_reducible assumption) | omega)); (case zqm => (first | (with_reducible assumption) | decide | omega)); (case zqh => rfl); (case zqd => ktr_room); (case zqu => ktr_units); k_whole); intro r' t' h' tk' g' tg' st' ts' tp' hr' hg' hst' F' N'; (try simp only [List.nil_append, List.cons_append] at N'); (try k_sweep)))
  trivial
theorem line_p14_7 : True := by
  (k_with "call ref" => (k_here; (with_reducible show wpAny _ _ (call (Value.ref 211) [Value.ref _, Value.int _ _]) _ _ _); k_dflt (refine' k_draw (pre := [_, _, _]) ?zqF ?zqX ?zqT ?zqN ?zqa ?zqb ?zqC ?zqD ?zqi ?zql ?zqg ?zqs ?zqp ?zqm ?zqh ?zqd ?zqu ?_; (case zqF => k_asm); (case zqX => k_asm); (case zqT => k_asm); (case zqN => k_asm); (case zqa => k_extra "all"); (case zqb => k_extra "all"); (case zqC => is_list); (case zqD => (first | (with_reducible assumption) | (refine neN ?_; omega))); (case zqi => with_reducible assumption); (case zql => with_reducible assumption); (case zqg => with_reducible assumption); (case zqs => with_reducible assumption); (case zqp => (first | (with_reducible assumption) | omega)); (case zqm => (first | (with_reducible assumption) | decide | omega)); (case zqh => rfl); (case zqd => ktr_room); (case zqu => ktr_units); k_whole); intro r' t' h' tk' g' tg' st' ts' tp' hr' hg' hst' F' N'; (try simp only [List.nil_append, List.cons_append] at N'); (try k_sweep)))
  trivial

-- p15_given
section
variable {w : World} {h₀ h h' : Heap} {L P : Addr} {m : Str → Option Value} {pre post ext : List (Addr × Obj)} {o o' : Obj}
theorem sans_back (F : Fr h₀ L h m) (N : News h₀ L h (pre ++ (P, o) :: post)) (hne1 : ∀ p ∈ pre, @Ne Nat p.1 P) (hne2 : ∀ p ∈ post, @Ne Nat p.1 P) (k : Keep (sans h P) h') (e : h'.get? P = some o')
    (he : ∀ p ∈ ext, h'.get? p.1 = some p.2 ∧ (sans h P).get? p.1 = none ∧ p.1 ≠ P) : Fr h₀ L h' m ∧ News h₀ L h' ((pre ++ (P, o') :: post) ++ ext) ∧ ∀ p ∈ ext, h.get? p.1 = none := by
  have hP := N (P, o) (List.mem_append.mpr (.inr (.head _)))
  have kk : ∀ b o, b ≠ P → h.get? b = some o → h'.get? b = some o := fun b o hb q => k b o (by rw [sans_ne hb]; exact q)
  have he' : ∀ p ∈ ext, h.get? p.1 = none := fun p hp => by rw [← sans_ne (he p hp).2.2]; exact (he p hp).2.1
  refine ⟨⟨F.ns.at' fun o q => kk L o (Ne.symm hP.2.1) q, fun b o q => kk b o (fun z => by have := hP.2.2; rw [← z, q] at this; cases this) (F.keep b o q), F.above⟩, fun p hp => ?_, he'⟩
  rcases List.mem_append.mp hp with hp | hp
  · rcases List.mem_append.mp hp with hp | hp
    · exact ⟨kk _ _ (hne1 p hp) (N p (List.mem_append.mpr (.inl hp))).1, (N p (List.mem_append.mpr (.inl hp))).2⟩
    · rcases List.mem_cons.mp hp with rfl | hp
      · exact ⟨e, hP.2⟩
      · exact ⟨kk _ _ (hne2 p hp) (N p (List.mem_append.mpr (.inr (.tail _ hp)))).1, (N p (List.mem_append.mpr (.inr (.tail _ hp)))).2⟩
  · exact ⟨(he p hp).1, fresh_of F (he' p hp)⟩

theorem ext_two {gs : Heap} {a b : Addr × Obj} {rest : List (Addr × Obj)} (N : News gs L h' (a :: b :: rest)) (l1 : @Ne Nat P a.1) (l2 : @Ne Nat P b.1) : ∀ p ∈ [a, b], h'.get? p.1 = some p.2 ∧ gs.get? p.1 = none ∧ p.1 ≠ P := fun p hp => by
  rcases List.mem_cons.mp hp with rfl | hp
  · exact ⟨(N _ (.head _)).1, (N _ (.head _)).2.2, Ne.symm l1⟩
  · obtain rfl := List.mem_singleton.mp hp
    exact ⟨(N _ (.tail _ (.head _))).1, (N _ (.tail _ (.head _))).2.2, Ne.symm l2⟩
theorem ten_div {n : Int} (h : n.fmod 10 = 0) : n = 10 * n.fdiv 10 := by
  rw [Int.fmod_eq_emod_of_nonneg _ (by decide)] at h
  rw [Int.fdiv_eq_ediv_of_nonneg _ (by decide)]
  omega
end

section
variable {w : World} {mean : ExcName → Option Value} {mg mb : Str → Option Value} {A : Around} {s : Shared} {Q E : Value → Shared → Prop} {h₀ : Heap} {L : Addr} {m : Str → Option Value} {pre post : List (Addr × Obj)}
set_option maxHeartbeats 4000000 in
theorem k_given {P C : Addr} {g st pl n : Int} {tg ts tp tm : Tok} {cs : List Value} {ns : List Int} (F : Fr h₀ L s.heap m) (X : (hd.heap_39 w.params).In h₀) (T : Top view (looseW view [Str.ofString "PaperError"]) mean mg mb h₀)
    (N : News h₀ L s.heap (pre ++ (P, PoolO C g tg st ts pl tp) :: post)) (hne1 : ∀ p ∈ pre, @Ne Nat p.1 P) (hne2 : ∀ p ∈ post, @Ne Nat p.1 P) (hC : s.heap.IsList C cs.toArray) (hCP : @Ne Nat C P) (hi : IntsAre cs ns) (hl : cs.length ≤ 1000)
    (hg : 0 ≤ g) (hst : 0 ≤ st ∧ st < 2147483647) (hpl : 0 ≤ pl ∧ pl < 1000) (hn : -10000 ≤ n ∧ n ≤ 10000)
    (hh : A.handled = none) (hdp : A.depth + 6 < recursionLimit) (hun : A.units + 60 < cLine)
    (ret : ∀ V h' tk' g' tg' st' ts' pl' tp' ext, IVs w h₀ ext V n → 0 ≤ g' → 0 ≤ st' ∧ st' < 2147483647 → pl ≤ pl' ∧ pl' ≤ pl + 1 → Fr h₀ L h' m → News h₀ L h' ((pre ++ (P, PoolO C g' tg' st' ts' pl' tp') :: post) ++ ext) → (∀ p ∈ ext, s.heap.get? p.1 = none) → Q V { s with heap := h', toks := tk' }) :
    wpAny (model PySem.Challenge.rw_nn0117_01.row.prog w) A (call (.ref 232) [.ref P, .int n tm]) Q E s := by
  have hP := N (P, PoolO C g tg st ts pl tp) (List.mem_append.mpr (.inr (.head _)))
  have hCs : (sans s.heap P).IsList C cs.toArray := by
    obtain ⟨o, e, r⟩ := hC
    exact ⟨o, by rw [sans_ne hCP]; exact e, r⟩
  have back : ∀ V h' tk' g' tg' st' ts' pl' tp' ext, IVs w h₀ ext V n → 0 ≤ g' → 0 ≤ st' ∧ st' < 2147483647 → pl ≤ pl' ∧ pl' ≤ pl + 1 → Keep (sans s.heap P) h' → h'.get? P = some (PoolO C g' tg' st' ts' pl' tp') → (∀ p ∈ ext, h'.get? p.1 = some p.2 ∧ (sans s.heap P).get? p.1 = none ∧ p.1 ≠ P) → Q V { s with heap := h', toks := tk' } :=
    fun V h' tk' g' tg' st' ts' pl' tp' ext hv h1 h2 h3 k e he => by
      obtain ⟨F', N', hx⟩ := sans_back F N hne1 hne2 k e he
      exact ret V h' tk' g' tg' st' ts' pl' tp' ext hv h1 h2 h3 F' N' hx
  have X' := X.keeps (keep_sans F.keep hP.2.2)
  have T' := T.keeps (keep_sans F.keep hP.2.2)
  clear ret X T
  generalize hgs : sans s.heap P = gs at hCs back X' T'
  have hkg : Keep gs s.heap := by rw [← hgs]; exact sans_keep
  have hzg : gs.objs.size ≤ s.heap.objs.size := by rw [← hgs, sans_size]; exact Nat.le_refl _
  have hng : ∀ q ∈ [(P, PoolO C g tg st ts pl tp)], s.heap.get? q.1 = some q.2 ∧ gs.get? q.1 = none := fun q hq => by
    obtain rfl := List.mem_singleton.mp hq
    exact ⟨hP.1, by rw [← hgs]; exact sans_at⟩
  clear hgs F N hP hne1 hne2 hC
  have X := X'
  have T := T'
  clear X' T'
  (revert X; k_fill; intro X)
  obtain ⟨_, dp, fr, gd, un⟩ := A
  obtain rfl : _ = none := hh
  refine wpAny_call (enterG gs [(P, PoolO C g tg st ts pl tp)] hkg hzg hng X T (by k_is) (by k_is) (by ktr_room) (binds := [(Str.ofString "pool", .ref P), (Str.ofString "tenths", .int n tm)]) (BindsTo.of_eq rfl) (locs rfl) ?_ (by decide) rfl rfl rfl)
  intro L' h' F' N' l1
  have hp01 : (1 : Int) = 0 ∨ (1 : Int) = 1 := .inr rfl
  try dsimp only
  try k_fold
  k_steps
  · exact back _ _ _ _ _ _ _ (pl + 1) _ [] ⟨.inl ⟨_, _, rfl, ten_div (by with_reducible assumption)⟩, hn⟩ (by with_reducible assumption) (by with_reducible assumption) ⟨by omega, by omega⟩ (Fr.keep (by k_asm)) ((‹News _ _ _ _› : News _ _ _ _) _ (.head _)).1 (fun _ h => nomatch h)
  · exact back _ _ _ _ _ _ _ (pl + 1) _ _ ⟨.inr (dvs_new (hv'.to (if_neg (by decide))) ⟨by omega, by omega⟩), hn⟩ (by with_reducible assumption) (by with_reducible assumption) ⟨by omega, by omega⟩ F'.keep (N' _ (.tail _ (.tail _ (.head _)))).1 (ext_two N' l2 l1)
  · exact back _ _ _ _ _ _ _ pl _ _ ⟨.inr (dvs_new (hv'.to (if_neg (by decide))) ⟨by omega, by omega⟩), hn⟩ hg hst ⟨by omega, by omega⟩ F'.keep (N' _ (.tail _ (.tail _ (.head _)))).1 (ext_two N' l2 l1)
end
theorem line_p15_1 : True := by
  (k_with "call ref" => (k_here; (with_reducible show wpAny _ _ (call (Value.ref 232) [Value.ref _, Value.int _ _]) _ _ _); k_dflt (refine' k_given (pre := []) ?zqF ?zqX ?zqT ?zqN ?zqa ?zqb ?zqC ?zqD ?zqi ?zql ?zqg ?zqs ?zqp ?zqm ?zqh ?zqd ?zqu ?_; (case zqF => k_asm); (case zqX => k_asm); (case zqT => k_asm); (case zqN => k_asm); (case zqa => k_extra "all"); (case zqb => k_extra "all"); (case zqC => is_list); (case zqD => (first | (with_reducible assumption) | (refine neN ?_; omega))); (case zqi => with_reducible assumption); (case zql => with_reducible assumption); (case zqg => with_reducible assumption); (case zqs => with_reducible assumption); (case zqp => (first | (with_reducible assumption) | omega)); (case zqm => (first | (with_reducible assumption) | decide | omega)); (case zqh => rfl); (case zqd => ktr_room); (case zqu => ktr_units); k_whole); intro V' h' tk' g' tg' st' ts' pl' tp' ext' hV' hg' hst' hpl' F' N' hx'; (try simp only [List.nil_append, List.cons_append] at N'); (try k_sweep)))
  trivial
theorem line_p15_2 : True := by
  (k_with "call ref" => (k_here; (with_reducible show wpAny _ _ (call (Value.ref 232) [Value.ref _, Value.int _ _]) _ _ _); k_dflt (refine' k_given (pre := [_]) ?zqF ?zqX ?zqT ?zqN ?zqa ?zqb ?zqC ?zqD ?zqi ?zql ?zqg ?zqs ?zqp ?zqm ?zqh ?zqd ?zqu ?_; (case zqF => k_asm); (case zqX => k_asm); (case zqT => k_asm); (case zqN => k_asm); (case zqa => k_extra "all"); (case zqb => k_extra "all"); (case zqC => is_list); (case zqD => (first | (with_reducible assumption) | (refine neN ?_; omega))); (case zqi => with_reducible assumption); (case zql => with_reducible assumption); (case zqg => with_reducible assumption); (case zqs => with_reducible assumption); (case zqp => (first | (with_reducible assumption) | omega)); (case zqm => (first | (with_reducible assumption) | decide | omega)); (case zqh => rfl); (case zqd => ktr_room); (case zqu => ktr_units); k_whole); intro V' h' tk' g' tg' st' ts' pl' tp' ext' hV' hg' hst' hpl' F' N' hx'; (try simp only [List.nil_append, List.cons_append] at N'); (try k_sweep)))
  trivial
theorem line_p15_3 : True := by
  (k_with "call ref" => (k_here; (with_reducible show wpAny _ _ (call (Value.ref 232) [Value.ref _, Value.int _ _]) _ _ _); k_dflt (refine' k_given (pre := [_, _]) ?zqF ?zqX ?zqT ?zqN ?zqa ?zqb ?zqC ?zqD ?zqi ?zql ?zqg ?zqs ?zqp ?zqm ?zqh ?zqd ?zqu ?_; (case zqF => k_asm); (case zqX => k_asm); (case zqT => k_asm); (case zqN => k_asm); (case zqa => k_extra "all"); (case zqb => k_extra "all"); (case zqC => is_list); (case zqD => (first | (with_reducible assumption) | (refine neN ?_; omega))); (case zqi => with_reducible assumption); (case zql => with_reducible assumption); (case zqg => with_reducible assumption); (case zqs => with_reducible assumption); (case zqp => (first | (with_reducible assumption) | omega)); (case zqm => (first | (with_reducible assumption) | decide | omega)); (case zqh => rfl); (case zqd => ktr_room); (case zqu => ktr_units); k_whole); intro V' h' tk' g' tg' st' ts' pl' tp' ext' hV' hg' hst' hpl' F' N' hx'; (try simp only [List.nil_append, List.cons_append] at N'); (try k_sweep)))
  trivial
theorem line_p15_4 : True := by
  (k_with "call ref" => (k_here; (with_reducible show wpAny _ _ (call (Value.ref 232) [Value.ref _, Value.int _ _]) _ _ _); k_dflt (refine' k_given (pre := [_, _, _]) ?zqF ?zqX ?zqT ?zqN ?zqa ?zqb ?zqC ?zqD ?zqi ?zql ?zqg ?zqs ?zqp ?zqm ?zqh ?zqd ?zqu ?_; (case zqF => k_asm); (case zqX => k_asm); (case zqT => k_asm); (case zqN => k_asm); (case zqa => k_extra "all"); (case zqb => k_extra "all"); (case zqC => is_list); (case zqD => (first | (with_reducible assumption) | (refine neN ?_; omega))); (case zqi => with_reducible assumption); (case zql => with_reducible assumption); (case zqg => with_reducible assumption); (case zqs => with_reducible assumption); (case zqp => (first | (with_reducible assumption) | omega)); (case zqm => (first | (with_reducible assumption) | decide | omega)); (case zqh => rfl); (case zqd => ktr_room); (case zqu => ktr_units); k_whole); intro V' h' tk' g' tg' st' ts' pl' tp' ext' hV' hg' hst' hpl' F' N' hx'; (try simp only [List.nil_append, List.cons_append] at N'); (try k_sweep)))
  trivial

-- p16_small
section
variable {w : World} {mean : ExcName → Option Value} {mg mb : Str → Option Value} {A : Around} {s : Shared} {Q E : Value → Shared → Prop}
set_option maxHeartbeats 4000000 in
theorem c_tenths {x dx : Addr} {k1 t τ1 k2 p τ2} {v : Int} (X : (hd.heap_39 w.params).In s.heap) (T : Top view (looseW view [Str.ofString "PaperError"]) mean mg mb s.heap)
    (D : DecO w s.heap x dx k1 t τ1 k2 p τ2) (hp : TV t p v) (b1 : -1000000 ≤ v ∧ v ≤ 1000000)
    (hh : A.handled = none) (hdp : A.depth + 12 < recursionLimit) (hun : A.units + 160 < cLine)
    (ret : ∀ τ h' tk', Keep s.heap h' → Q (.int v τ) { s with heap := h', toks := tk' }) :
    wpAny (model PySem.Challenge.rw_nn0117_01.row.prog w) A (call (.ref 239) [.ref x]) Q E s := by
  (revert X; k_fill; intro X)
  obtain ⟨_, dp, fr, gd, un⟩ := A
  obtain rfl : _ = none := hh
  refine enterP X T (by k_is) (by k_is) (by ktr_room) (binds := [(Str.ofString "value", .ref x)]) (BindsTo.of_eq rfl) (locs rfl) ?_ (by decide) rfl rfl rfl
  intro L' h' F' N'
  try dsimp only
  try k_fold
  k_steps
  subst hr'
  exact ret _ _ _ (Fr.keep (by k_asm))
end
section
variable {w : World} {mean : ExcName → Option Value} {mg mb : Str → Option Value} {A : Around} {s : Shared} {Q E : Value → Shared → Prop} {h₀ : Heap} {L : Addr} {m : Str → Option Value} {news : List (Addr × Obj)}
theorem k_tenths {x dx : Addr} {C : Addr} {od ox : Obj} {k1 t τ1 k2 p τ2} {v : Int} (F : Fr h₀ L s.heap m) (X : (hd.heap_39 w.params).In h₀) (T : Top view (looseW view [Str.ofString "PaperError"]) mean mg mb h₀) (N : News h₀ L s.heap news)
    (I : InstAt s.heap x ox C (some od)) (e1 : ox = instObj 155 dx) (e2 : od = decD w k1 t τ1 k2 p τ2) (hp : TV t p v) (b1 : -1000000 ≤ v ∧ v ≤ 1000000)
    (hh : A.handled = none) (hdp : A.depth + 12 < recursionLimit) (hun : A.units + 160 < cLine)
    (ret : ∀ τ h' tk', Fr h₀ L h' m → News h₀ L h' news → Q (.int v τ) { s with heap := h', toks := tk' }) :
    wpAny (model PySem.Challenge.rw_nn0117_01.row.prog w) A (call (.ref 239) [.ref x]) Q E s := by
  subst e1 e2
  exact c_tenths (X.keeps F.keep) (T.keeps F.keep) ⟨I.at_, I.dict⟩ hp b1 hh hdp hun fun τ h' tk' k => ret τ h' tk' (F.keeps k) (N.keepsAll k)
end
theorem line_p16_1 : True := by
  (k_with "call ref" => (k_here; (with_reducible show wpAny _ _ (call (Value.ref 239) _) _ _ _); k_dflt (refine' k_tenths ?zqF ?zqX ?zqT ?zqN ?zqI ?zqe1 ?zqe2 ?zqhp ?zqb1 ?zqhh ?zqhd ?zqhu ?_; (case zqF => k_asm); (case zqX => k_asm); (case zqT => k_asm); (case zqN => k_asm); (case zqI => k_inst); (case zqe1 => rfl); (case zqe2 => rfl); (case zqhp => assumption); (case zqb1 => (first | (with_reducible assumption) | omega)); (case zqhh => rfl); (case zqhd => ktr_room); (case zqhu => ktr_units); k_whole); intro t' h' tk' F' N'; (try k_sweep)))
  trivial

/-- _law_is_drawn, reckoned -/
noncomputable def drawnF : List Int → Nat → Int → Bool
  | [], _, _ => false
  | x :: r, k, rest => if rest < x then k % 2 == 0 else drawnF r (k + 1) (rest - x)

section
variable {prog : Program} {w : World} {A : Around} {E : Value → Shared → Prop} {s : Shared} {env : Env} {h₀ : Heap} {x : Str} {body : List Stmt} {Q : Flow → Shared → Prop}
/-- a for over a range of n turns from 0, by an invariant over the turn's number, the frame and the ledger; the body may return -/
theorem for_rangeV {r : Addr} {n : Nat} {t u v : Tok} {m₀ : Str → Option Value} {news : List (Addr × Obj)} (J : Nat → (Str → Option Value) → List (Addr × Obj) → Prop)
    (hh : A.handled = none) (F : Fr h₀ env.locals s.heap m₀) (N : News h₀ env.locals s.heap news) (hr : IsRange s.heap r 0 n 1 t u v) (hn : n ≤ 100000) (hj : J 0 m₀ news)
    (turn : ∀ I i tki m₁ news₁ h tk own, i < n → J i m₁ news₁ → (∀ p ∈ own, p.1 = I) → (∀ p ∈ news₁, p.1 ∉ [I]) → Fr h₀ env.locals h (fun y => if y = x then some (.int (i : Int) tki) else m₁ y) → News h₀ env.locals h (own ++ news₁) →
      wpAny (model prog w) A (execs body env) (LoopStepV h₀ env.locals [I] own (J (i + 1)) { s with heap := h, toks := tk } (fun v s' => Q (.ret v) s') fun s' => Q .next s') E { s with heap := h, toks := tk })
    (done : ∀ m₁ news₁ h tk, J n m₁ news₁ → Fr h₀ env.locals h m₁ → News h₀ env.locals h news₁ → Q .next { s with heap := h, toks := tk }) :
    wpAny (model prog w) A (pyIter (.ref r)) (fun it s₂ => LoopAtV prog w A h₀ env x body Q E it s₂) E s := by
  have hrs : Builtin.Range.rangeSize 0 (n : Int) 1 = ((n : Nat) : Int) := by
    simp [Builtin.Range.rangeSize]
    omega
  refine wpAny_pyIter_range hr (small_one (by decide) (by decide) (by omega) (by omega)) ?_
  have W := LCg.range_walks (prog := prog) (w := w) (I := s.heap.objs.size) hh 0 n
  refine ⟨_, _, _, n, _, _, m₀, news, J, rfl, W, ?_, ?_, ?_, ?_, F.push _, (fun p hp => ⟨Heap.get?_push_of_some _ (N p hp).1, (N p hp).2⟩), hj, ?_, ?_⟩
  · intro hm
    exact absurd F.ns.lt ((List.mem_singleton.mp hm) ▸ Nat.lt_irrefl _)
  · intro b hb
    rw [List.mem_singleton.mp hb]
    exact next_is_new F
  · intro p hp hI
    exact absurd (Heap.lt_size (N p hp).1) ((List.mem_singleton.mp hI) ▸ Nat.lt_irrefl _)
  · show IsRangeIter _ _ _ _ _
    rw [hrs]
    simpa using Heap.get?_push_size _ rfl
  · rintro i v m₁ news₁ s₁ own ⟨hh', tk', rfl⟩ hin ⟨tki, rfl⟩ hJ hoff hown _ _ _ F₁ N₁
    rw [Int.zero_add] at F₁
    exact turn _ i tki m₁ news₁ hh' tk' own hin hJ (fun p hp => by simpa using hown p hp) hoff F₁ N₁
  · rintro h' tk m' news' F' N' _ hJ
    exact done m' news' h' tk hJ F' N'
end
local macro_rules | `(tactic| walk_at "pyIter ref") => `(tactic| ((with_reducible show wpAny _ _ (pyIter (Value.ref _)) (fun it s₂ => LoopAtV _ _ _ _ _ _ _ _ _ it s₂) _ _); (have hm9 := (by with_reducible assumption : Halt (4 = 4))); clear hm9; refine Halt.out ?_))
local macro_rules | `(tactic| walk_at "pyIter ref") => `(tactic| ((with_reducible show wpAny _ _ (pyIter (Value.ref _)) (fun it s₂ => LoopAtT _ _ _ _ _ _ _ _ _ it s₂) _ _); (have hm9 := (by with_reducible assumption : Halt (4 = 4))); clear hm9; refine Halt.out ?_))
theorem line_p16_2 : True := by
  (k_with "exec For" => ((have hm9 := (by with_reducible assumption : Halt (5 = 5))); clear hm9; refine Halt.out ?_))
  trivial

/-- between the turns of a loop that stores the int a (its own name x) -/
def LoopI1 (x a : Str) (bm : Str → Option Value) (R : Int → Prop) (m₁ : Str → Option Value) : Prop := ∃ (v : Int) (tk : Tok) (u : Option Value), R v ∧ ∀ y, m₁ y = if y = x then u else if y = a then some (.int v tk) else bm y
theorem LoopI1.start {x a : Str} {bm m : Str → Option Value} {R : Int → Prop} {v : Int} {tk : Tok} (hxa : a ≠ x) (hR : R v) (hm : m = fun y => if y = a then some (.int v tk) else bm y) : LoopI1 x a bm R m :=
  ⟨v, tk, bm x, hR, fun y => by
    rw [hm]
    dsimp only
    by_cases h : y = x
    · subst h; rw [if_pos rfl, if_neg (Ne.symm hxa)]
    · rw [if_neg h]⟩
theorem LoopI1.turn {h₀ h : Heap} {L : Addr} {x a : Str} {bm m₁ : Str → Option Value} {R : Int → Prop} {P : Prop} {w : Option Value} (I : LoopI1 x a bm R m₁) (F : Fr h₀ L h (fun y => if y = x then w else m₁ y))
    (k : ∀ v tk, R v → Fr h₀ L h (fun y => if y = x then w else if y = a then some (.int v tk) else bm y) → P) : P := by
  obtain ⟨v, tk, u, hR, hm⟩ := I
  refine k v tk hR ?_
  have : (fun y => if y = x then w else m₁ y) = fun y => if y = x then w else if y = a then some (.int v tk) else bm y := by
    funext y
    by_cases h : y = x
    · rw [if_pos h, if_pos h]
    · rw [if_neg h, if_neg h, hm, if_neg h]
  rwa [this] at F
theorem LoopI1.done {h₀ h : Heap} {L : Addr} {x a : Str} {bm m₁ : Str → Option Value} {R : Int → Prop} {P : Prop} (I : LoopI1 x a bm R m₁) (F : Fr h₀ L h m₁)
    (k : ∀ v tk u, R v → Fr h₀ L h (fun y => if y = x then u else if y = a then some (.int v tk) else bm y) → P) : P := by
  obtain ⟨v, tk, u, hR, hm⟩ := I
  rw [funext hm] at F
  exact k v tk u hR F
theorem LoopI1.next {x a : Str} {bm m₂ : Str → Option Value} {R : Int → Prop} {v : Int} {tk : Tok} {u u2 : Option Value} (hxa : a ≠ x) (hR : R v) (hm : m₂ = fun y => if y = a then some (.int v tk) else if y = x then u else if y = a then u2 else bm y) : LoopI1 x a bm R m₂ :=
  ⟨v, tk, u, hR, fun y => by
    rw [hm]
    dsimp only
    by_cases h : y = x
    · subst h; rw [if_pos rfl, if_neg (Ne.symm hxa), if_pos rfl]
    · rw [if_neg h, if_neg h]
      by_cases h2 : y = a
      · rw [if_pos h2, if_pos h2]
      · rw [if_neg h2, if_neg h2, if_neg h2]⟩

theorem drawn_at {pat : List Int} {i : Nat} {rest : Int} (hi : i < pat.length) : drawnF (pat.drop i) i rest = if rest < pat.getD ((i : Int)).toNat 0 then i % 2 == 0 else drawnF (pat.drop (i + 1)) (i + 1) (rest - pat.getD ((i : Int)).toNat 0) := by
  rw [List.drop_eq_getElem_cons hi, Int.toNat_natCast, List.getD_eq_getElem?_getD, List.getElem?_eq_getElem hi, Option.getD_some]
  rfl
theorem even_eq {i : Nat} : ((i : Int).fmod 2 == 0) = (i % 2 == 0) := by
  rw [Int.fmod_eq_emod_of_nonneg _ (by decide)]
  have : ((i : Int) % 2 = 0) ↔ i % 2 = 0 := by omega
  by_cases h : i % 2 = 0
  · rw [beq_iff_eq.mpr h, beq_iff_eq.mpr (this.mpr h)]
  · rw [beq_eq_false_iff_ne.mpr h, beq_eq_false_iff_ne.mpr (fun z => h (this.mp z))]
theorem drawn_hit {pat : List Int} {i : Nat} {rest : Int} {D : Bool} (hi : i < pat.length) (hd : drawnF (pat.drop i) i rest = D) (h : rest < pat.getD ((i : Int)).toNat 0) : ((i : Int).fmod 2 == 0) = D := by
  rw [← hd, drawn_at hi, if_pos h, even_eq]
theorem drawn_miss {pat : List Int} {i : Nat} {rest : Int} {D : Bool} (hi : i < pat.length) (hd : drawnF (pat.drop i) i rest = D) (h : ¬ rest < pat.getD ((i : Int)).toNat 0) : drawnF (pat.drop (i + 1)) (i + 1) (rest - pat.getD ((i : Int)).toNat 0) = D := by
  rw [← hd, drawn_at hi, if_neg h]
theorem drawn_end {pat : List Int} {i : Nat} {rest : Int} {D : Bool} (hi : i = pat.length) (hd : drawnF (pat.drop i) i rest = D) : false = D := by
  rw [← hd, hi, List.drop_length]; rfl

section
variable {w : World} {mean : ExcName → Option Value} {mg mb : Str → Option Value} {A : Around} {s : Shared} {Q E : Value → Shared → Prop}
set_option maxHeartbeats 4000000 in
theorem c_drawn {l : Addr} {vs : List Value} {pat : List Int} {place : Int} {tkp : Tok} (X : (hd.heap_39 w.params).In s.heap) (T : Top view (looseW view [Str.ofString "PaperError"]) mean mg mb s.heap)
    (hl : s.heap.IsList l vs.toArray) (hi : IntsAre vs pat) (hlen : vs.length ≤ 100) (hb : ∀ n ∈ pat, 0 ≤ n ∧ n ≤ 100) (hs : 1 ≤ pat.sum) (hp : 0 ≤ place ∧ place ≤ 1000)
    (hh : A.handled = none) (hdp : A.depth + 3 < recursionLimit) (hun : A.units + 40 < cLine)
    (ret : ∀ h' tk', Keep s.heap h' → Q (.bool (drawnF pat 0 (place.fmod pat.sum))) { s with heap := h', toks := tk' }) :
    wpAny (model PySem.Challenge.rw_nn0117_01.row.prog w) A (call (.ref 246) [.ref l, .int place tkp]) Q E s := by
  (revert X; k_fill; intro X)
  obtain ⟨_, dp, fr, gd, un⟩ := A
  obtain rfl : _ = none := hh
  refine enterP X T (by k_is) (by k_is) (by ktr_room) (binds := [(Str.ofString "pattern", .ref l), (Str.ofString "place", .int place tkp)]) (BindsTo.of_eq rfl) (locs rfl) ?_ (by decide) rfl rfl rfl
  intro L' h' F' N'
  have mk4 : Halt (4 = 4) := rfl
  have mk5 : Halt (5 = 5) := rfl
  try dsimp only
  try k_fold
  k_steps
  rename IsRange _ _ _ _ _ _ _ _ => hR
  rename News _ _ _ _ => Nk
  rename Fr _ _ _ _ => Fk
  refine Halt.mk (for_rangeV (fun i m₁ news₁ => news₁ = [] ∧ LoopI1 (Str.ofString "k") (Str.ofString "rest") (fun y => List.lookup y [(Str.ofString "pattern", Value.ref l), (Str.ofString "place", Value.int place tkp)].reverse) (fun rest => drawnF (pat.drop i) i rest = drawnF pat 0 (place.fmod pat.sum)) m₁) rfl Fk Nk hR (by omega) ⟨rfl, LoopI1.start (by decide) (by rw [List.drop_zero]) rfl⟩ ?_ ?_)
  · rintro I i tki m₁ news₁ h tk own hin ⟨rfl, J⟩ hown hoff F₁ N₁
    refine J.turn F₁ fun rest tk2 hd F₂ => ?_
    clear Fk Nk hR F₁ J
    have hi0 : 0 ≤ (i : Int) ∧ (i : Int) < (vs.length : Int) := by omega
    obtain ⟨hi1, hi2⟩ := hi0
    show wpAny _ _ _ _ _ _
    k_fold
    k_steps
    · refine (?_ : Q (.bool ((i : Int).fmod 2 == 0)) _)
      rw [drawn_hit hin hd (by with_reducible assumption)]
      exact ret _ _ (Fr.keep (by k_asm))
    · exact LoopStepU.intro (by k_asm) (by k_asm) hoff ⟨rfl, LoopI1.next (by decide) (drawn_miss hin hd (by with_reducible assumption)) rfl⟩
  · rintro m₁ news₁ h tk ⟨rfl, J⟩ F₁ N₁
    refine J.done F₁ fun rest tk2 u hd F₂ => ?_
    clear Fk Nk hR F₁ J
    k_steps
    rw [drawn_end rfl hd]
    exact ret _ _ (Fr.keep (by k_asm))
end

-- p17_lone
theorem line_p17_1 : True := by
  (k_with "exec While Compare" => ((have hm9 := (by with_reducible assumption : Halt (3 = 3))); clear hm9; refine Halt.out ?_))
  trivial
/-- _law_lone, reckoned: n turns may still be made -/
noncomputable def loneR (S : List Int) (T : Int) : Nat → Int → Nat → List Int → Option (List Int)
  | 0, at_, _, found => if at_ < T then none else some found
  | n + 1, at_, k, found => if at_ < T then
      loneR S T n (at_ + S.getD (k % S.length) 0) (k + 1) (if k % 2 = 0 ∧ S.getD (k % S.length) 0 = 0 ∧ 0 ≤ at_ then found ++ [at_] else found)
    else some found

def LoneInv (S : List Int) (T : Int) (N : Nat) (res : List Int) (fl : Addr) (bm : Str → Option Value) (n : Nat) (m₁ : Str → Option Value) (news₁ : List (Addr × Obj)) : Prop :=
  ∃ (an : Int) (k : Nat) (tka tkk : Tok) (items : List Value) (found : List Int) (c : Nat), news₁ = [(fl, listOf items.toArray c)] ∧ IntsAre items found ∧ k + n = N ∧ loneR S T n an k found = some res ∧ items.length ≤ k ∧
    m₁ = fun y => if y = Str.ofString "k" then some (.int k tkk) else if y = Str.ofString "at" then some (.int an tka) else if y = Str.ofString "found" then some (.ref fl) else bm y
theorem LoneInv.out {h₀ h : Heap} {L : Addr} {S : List Int} {T : Int} {N : Nat} {res : List Int} {fl : Addr} {bm m₁ : Str → Option Value} {n : Nat} {news₁ : List (Addr × Obj)} {P : Prop} (I : LoneInv S T N res fl bm n m₁ news₁) (F : Fr h₀ L h m₁) (Nw : News h₀ L h news₁)
    (q : ∀ (an : Int) (k : Nat) (tka tkk : Tok) (items : List Value) (found : List Int) (c : Nat), Fr h₀ L h (fun y => if y = Str.ofString "k" then some (.int k tkk) else if y = Str.ofString "at" then some (.int an tka) else if y = Str.ofString "found" then some (.ref fl) else bm y) →
      News h₀ L h [(fl, listOf items.toArray c)] → IntsAre items found → k + n = N → loneR S T n an k found = some res → items.length ≤ k → P) : P := by
  obtain ⟨an, k, tka, tkk, items, found, c, rfl, hi, hn, hr, hl, rfl⟩ := I
  exact q an k tka tkk items found c F Nw hi hn hr hl
theorem three_first {α : Type} {a b c : Str} {m₂ : Str → α} {u v w u2 v2 : α} {bm : Str → α} (hab : a ≠ b) (hm : m₂ = fun y => if y = a then u else if y = b then v else if y = a then u2 else if y = b then v2 else if y = c then w else bm y) :
    m₂ = fun y => if y = a then u else if y = b then v else if y = c then w else bm y := by
  rw [hm]
  funext y
  by_cases h1 : y = a
  · rw [if_pos h1, if_pos h1]
  · rw [if_neg h1, if_neg h1]
    by_cases h2 : y = b
    · subst h2; rw [if_pos rfl, if_neg h1, if_pos rfl]
    · rw [if_neg h2, if_neg h2, if_neg h1, if_neg h2]
theorem loneR_step {S : List Int} {T an : Int} {n k : Nat} {found res : List Int} (h : an < T) (hr : loneR S T (n + 1) an k found = some res) :
    loneR S T n (an + S.getD (k % S.length) 0) (k + 1) (if k % 2 = 0 ∧ S.getD (k % S.length) 0 = 0 ∧ 0 ≤ an then found ++ [an] else found) = some res := by
  rw [← hr]
  conv => rhs; unfold loneR
  rw [if_pos h]
theorem loneR_end {S : List Int} {T an : Int} {n k : Nat} {found res : List Int} (h : ¬ an < T) (hr : loneR S T n an k found = some res) : found = res := by
  cases n <;> (unfold loneR at hr; rw [if_neg h] at hr; exact Option.some.inj hr)
theorem loneR_more {S : List Int} {T an : Int} {n k : Nat} {found res : List Int} (h : an < T) (hr : loneR S T n an k found = some res) : ∃ n', n = n' + 1 := by
  cases n with
  | zero => unfold loneR at hr; rw [if_pos h] at hr; cases hr
  | succ n => exact ⟨n, rfl⟩

theorem LoneInv.next {S : List Int} {T : Int} {N : Nat} {res : List Int} {fl : Addr} {bm m₂ : Str → Option Value} {n k c : Nat} {an : Int} {items : List Value} {found : List Int} {tk1 tk2 : Tok} {u2 v2 : Option Value} (hit : IntsAre items found) (hn : k + (n + 1) = N) (hr : loneR S T n an (k + 1) found = some res) (hl : items.length ≤ k + 1)
    (hm : m₂ = fun y => if y = Str.ofString "k" then some (.int ((k : Int) + 1) tk1) else if y = Str.ofString "at" then some (.int an tk2) else if y = Str.ofString "k" then u2 else if y = Str.ofString "at" then v2 else if y = Str.ofString "found" then some (.ref fl) else bm y) :
    LoneInv S T N res fl bm n m₂ [(fl, listOf items.toArray c)] :=
  ⟨an, k + 1, tk2, tk1, items, found, c, rfl, hit, by omega, hr, hl, three_first (by decide) hm⟩
theorem lone_T {k l : Nat} {pat : List Int} {an : Int} (hl : l = pat.length) (h1 : (k : Int).fmod 2 = 0) (h2 : pat.getD ((k : Int).fmod (l : Int)).toNat 0 = 0) (h3 : 0 ≤ an) : (true = true ↔ k % 2 = 0 ∧ pat.getD (k % pat.length) 0 = 0 ∧ 0 ≤ an) := by
  rw [fmod_nat, hl] at h2
  exact ⟨fun _ => ⟨by rw [Int.fmod_eq_emod_of_nonneg _ (by decide)] at h1; omega, h2, h3⟩, fun _ => rfl⟩
theorem lone_F1 {k : Nat} {pat : List Int} {an : Int} (h1 : (k : Int).fmod 2 ≠ 0) : (false = true ↔ k % 2 = 0 ∧ pat.getD (k % pat.length) 0 = 0 ∧ 0 ≤ an) :=
  ⟨(fun h => nomatch h), fun z => (h1 (by rw [Int.fmod_eq_emod_of_nonneg _ (by decide)]; omega)).elim⟩
theorem lone_F2 {k l : Nat} {pat : List Int} {an : Int} (hl : l = pat.length) (h2 : pat.getD ((k : Int).fmod (l : Int)).toNat 0 ≠ 0) : (false = true ↔ k % 2 = 0 ∧ pat.getD (k % pat.length) 0 = 0 ∧ 0 ≤ an) := by
  rw [fmod_nat, hl] at h2
  exact ⟨(fun h => nomatch h), fun z => (h2 z.2.1).elim⟩
theorem lone_F3 {k : Nat} {pat : List Int} {an : Int} (h3 : ¬ 0 ≤ an) : (false = true ↔ k % 2 = 0 ∧ pat.getD (k % pat.length) 0 = 0 ∧ 0 ≤ an) :=
  ⟨(fun h => nomatch h), fun z => (h3 z.2.2).elim⟩
theorem lone_at {k l : Nat} {pat : List Int} (hl : l = pat.length) : pat.getD ((k : Int).fmod (l : Int)).toNat 0 = pat.getD (k % pat.length) 0 := by rw [fmod_nat, hl]

section
variable {w : World} {mean : ExcName → Option Value} {mg mb : Str → Option Value} {A : Around} {s : Shared} {Q E : Value → Shared → Prop}
set_option maxHeartbeats 4000000 in
theorem c_lone {l : Addr} {vs : List Value} {pat res : List Int} {phase total : Int} {tkp tkt : Tok} {N : Nat} (X : (hd.heap_39 w.params).In s.heap) (T : Top view (looseW view [Str.ofString "PaperError"]) mean mg mb s.heap)
    (hl : s.heap.IsList l vs.toArray) (hi : IntsAre vs pat) (hlen : vs.length ≤ 100) (hne : 1 ≤ vs.length) (hN : N ≤ 1000) (hr : loneR pat total N (-phase) 0 [] = some res)
    (hh : A.handled = none) (hdp : A.depth + 3 < recursionLimit) (hun : A.units + 40 < cLine)
    (ret : ∀ r items c h' tk', Keep s.heap h' → s.heap.get? r = none → h'.get? r = some (listOf (List.toArray items) c) → IntsAre items res → Q (.ref r) { s with heap := h', toks := tk' }) :
    wpAny (model PySem.Challenge.rw_nn0117_01.row.prog w) A (call (.ref 253) [.ref l, .int phase tkp, .int total tkt]) Q E s := by
  (revert X; k_fill; intro X)
  obtain ⟨_, dp, fr, gd, un⟩ := A
  obtain rfl : _ = none := hh
  refine enterP X T (by k_is) (by k_is) (by ktr_room) (binds := [(Str.ofString "pattern", .ref l), (Str.ofString "phase", .int phase tkp), (Str.ofString "total", .int total tkt)]) (BindsTo.of_eq rfl) (locs rfl) ?_ (by decide) rfl rfl rfl
  intro L' h' F' N'
  have mk3 : Halt (3 = 3) := rfl
  try dsimp only
  try k_fold
  k_steps
  rename News _ _ _ _ => Nk
  rename Fr _ _ _ _ => Fk
  refine Halt.mk (While_inv2 (LoneInv pat total N res _ (fun y => List.lookup y [(Str.ofString "pattern", .ref l), (Str.ofString "phase", .int phase tkp), (Str.ofString "total", .int total tkt)].reverse)) (n₀ := N) Fk Nk ⟨-phase, 0, _, _, [], [], 0, rfl, .nil, Nat.zero_add _, hr, Nat.le_refl _, rfl⟩ ?_ PassesOwn.never)
  intro n m₁ news₁ h₁ tk₁ F₁ N₁ I₁
  refine I₁.out F₁ N₁ fun an k tka tkk items found c F₂ N₂ hit hn hrun hil => ?_
  clear I₁ F₁ N₁ Fk Nk mk3
  have mk0 : Halt (0 = 0) := rfl
  have vlen := hi.length
  have hkn : 0 ≤ (k : Int) := Int.natCast_nonneg _
  show wpAny _ _ _ _ _ _
  k_fold
  k_steps
  · rename Fr _ _ _ _ => Fb
    rename News _ _ _ _ => Nb
    refine Halt.mk (join_test (P := k % 2 = 0 ∧ pat.getD (k % pat.length) 0 = 0 ∧ 0 ≤ an) Fb Nb ?_ fun b h9 tk9 hb9 F9 N9 => ?_)
    · clear mk0
      show wpAny _ _ _ _ _ _
      k_fold
      k_steps
      all_goals first | assumption | exact lone_T vlen (by with_reducible assumption) (by with_reducible assumption) (by with_reducible assumption) | exact lone_F1 (by with_reducible assumption) | exact lone_F2 vlen (by with_reducible assumption) | exact lone_F3 (by with_reducible assumption)
    have hlt : an < total := by with_reducible assumption
    obtain ⟨n', rfl⟩ := loneR_more hlt hrun
    have hst := loneR_step hlt hrun
    clear Fb Nb mk0
    cases b
    · k_steps
      rename Fr _ _ _ _ => F5
      rename News _ _ _ _ => N5
      rw [if_neg fun z => Bool.noConfusion (hb9.mpr z), ← lone_at vlen] at hst
      exact ⟨_, _, _, _, n', rfl, F5, N5, Nat.lt_succ_self _, LoneInv.next hit hn hst (Nat.le_succ_of_le hil) rfl⟩
    · have mk1 : Halt (1 = 1) := rfl
      k_steps
      refine Halt.mk (append_any F9 N9 (List.forall_mem_nil _) (by omega) fun h8 F8 N8 => ?_)
      clear F9 N9 mk1
      k_steps
      rename Fr _ _ _ _ => F5
      rename News _ _ _ _ => N5
      rw [if_pos (hb9.mp rfl), ← lone_at vlen] at hst
      exact ⟨_, _, _, _, n', rfl, F5, N5, Nat.lt_succ_self _, LoneInv.next (hit.append (.cons _ _ .nil)) hn hst (by rw [List.length_append]; exact Nat.succ_le_succ hil) rfl⟩
  · rw [loneR_end (by with_reducible assumption) hrun] at hit
    exact ret _ _ _ _ _ (Fr.keep (by k_asm)) ((‹News _ _ _ _› : News _ _ _ _) _ (.head _)).2.2 ((‹News _ _ _ _› : News _ _ _ _) _ (.head _)).1 hit
end

-- p18_box
theorem line_p18_1 : True := by
  (k_with "exec If" => ((have hm9 := (by with_reducible assumption : Halt (6 = 6))); clear hm9; refine Halt.out ?_))
  trivial
theorem if_twice {α : Type} {a : Str} {u v : α} {bm : Str → α} : (fun z => if z = a then u else if z = a then v else bm z) = fun z => if z = a then u else bm z := by
  funext z
  by_cases h : z = a
  · rw [if_pos h, if_pos h]
  · rw [if_neg h, if_neg h, if_neg h]
def JoinI (s : Shared) (h₀ : Heap) (L : Addr) (nm : Str) (bm : Str → Option Value) (R : Int → Prop) (news : List (Addr × Obj)) (f : Flow) (s' : Shared) : Prop :=
  f = .next ∧ ∃ h' tk' g tg, R g ∧ s' = { s with heap := h', toks := tk' } ∧ Fr h₀ L h' (fun z => if z = nm then some (.int g tg) else bm z) ∧ News h₀ L h' news
section
variable {w : World} {A : Around} {E : Value → Shared → Prop} {s : Shared} {h₀ : Heap} {L : Addr} {news : List (Addr × Obj)}
/-- a statement that may store an int of R into nm: its ways joined -/
theorem join_int {t : Sem Flow} {nm : Str} {bm : Str → Option Value} {R : Int → Prop} {Q : Flow → Shared → Prop} {v : Option Value} (_F : Fr h₀ L s.heap (fun z => if z = nm then v else bm z)) (_N : News h₀ L s.heap news)
    (h1 : wpAny (model PySem.Challenge.rw_nn0117_01.row.prog w) A t (JoinI s h₀ L nm bm R news) E s)
    (h2 : ∀ h' tk' g tg, R g → Fr h₀ L h' (fun z => if z = nm then some (.int g tg) else bm z) → News h₀ L h' news → Q .next { s with heap := h', toks := tk' }) : wpAny (model PySem.Challenge.rw_nn0117_01.row.prog w) A t Q E s :=
  wpAny_mono h1 (fun f s' ⟨hf, h', tk', g, tg, hg, e, F', N'⟩ => by subst hf e; exact h2 h' tk' g tg hg F' N') fun _ _ z => z
theorem join_int_end {nm : Str} {bm : Str → Option Value} {R : Int → Prop} {h' : Heap} {tk' : Nat} {g : Int} {tg : Tok} {u : Option Value} (F : Fr h₀ L h' (fun z => if z = nm then some (.int g tg) else if z = nm then u else bm z)) (N : News h₀ L h' news) (hg : R g) :
    JoinI s h₀ L nm bm R news .next { s with heap := h', toks := tk' } := by
  rw [if_twice] at F
  exact ⟨rfl, _, _, _, _, hg, rfl, F, N⟩
theorem join_int_none {nm : Str} {bm : Str → Option Value} {R : Int → Prop} {h' : Heap} {tk' : Nat} {g : Int} {tg : Tok} (F : Fr h₀ L h' (fun z => if z = nm then some (.int g tg) else bm z)) (N : News h₀ L h' news) (hg : R g) :
    JoinI s h₀ L nm bm R news .next { s with heap := h', toks := tk' } := ⟨rfl, _, _, _, _, hg, rfl, F, N⟩
end
theorem fold_range {a : Int} (ha : 0 ≤ a ∧ a < 2147483647) : ∀ ns : List Int, 0 ≤ ns.foldl (fun a' n' => (a' * 48271 + n'.fmod 2147483647 + 11).fmod 2147483647) a ∧ ns.foldl (fun a' n' => (a' * 48271 + n'.fmod 2147483647 + 11).fmod 2147483647) a < 2147483647 := by
  intro ns
  induction ns generalizing a with
  | nil => exact ha
  | cons n r ih => exact ih (fmod_range (by decide))
theorem great_nn {x : Int} {k : Nat} : 0 ≤ x.fmod (10 ^ k) := (fmod_range (by have : (0 : Int) < 10 ^ k := Int.pow_pos (by decide); omega)).1

section
variable {w : World} {mean : ExcName → Option Value} {mg mb : Str → Option Value} {A : Around} {s : Shared} {Q E : Value → Shared → Prop}
set_option maxHeartbeats 4000000 in
theorem c_box {l : Addr} {vs : List Value} {ns : List Int} (X : (hd.heap_39 w.params).In s.heap) (T : Top view (looseW view [Str.ofString "PaperError"]) mean mg mb s.heap)
    (hl : s.heap.IsList l vs.toArray) (hi : IntsAre vs ns) (hlen : vs.length ≤ 1048576)
    (hh : A.handled = none) (hdp : A.depth + 3 < recursionLimit) (hun : A.units + 40 < cLine)
    (ret : ∀ P C cs ms c g tg st ts tp h' tk', Keep s.heap h' → s.heap.get? P = none → s.heap.get? C = none → h'.get? P = some (PoolO C g tg st ts 0 tp) → h'.get? C = some (listOf (List.toArray cs) c) → IntsAre cs ms → cs.length ≤ 1000 → 0 ≤ g → 0 ≤ st ∧ st < 2147483647 → Q (.ref P) { s with heap := h', toks := tk' }) :
    wpAny (model PySem.Challenge.rw_nn0117_01.row.prog w) A (call (.ref 204) [.ref l]) Q E s := by
  (revert X; k_fill; intro X)
  obtain ⟨_, dp, fr, gd, un⟩ := A
  obtain rfl : _ = none := hh
  refine enterP X T (by k_is) (by k_is) (by ktr_room) (binds := [(Str.ofString "script", .ref l)]) (BindsTo.of_eq rfl) (locs rfl) ?_ (by decide) rfl rfl rfl
  intro L' h' F' N'
  have mk2 : Halt (2 = 2) := rfl
  try dsimp only
  try k_fold
  k_steps
  clear mk2
  rename News _ _ _ _ => N1
  rename Fr _ _ _ _ => F1
  refine Halt.mk (LCg.Assign_ListComp_U (F₀ := by k_asm) (by rfl) (by with_unfolding_all rfl) (by rfl) (by decide) (by rfl) (by decide) (by rfl) (by rfl) (by rfl) ?_)
  k_fold
  have mk6 : Halt (6 = 6) := rfl
  k_steps
  rename News _ _ _ _ => N2
  rename Fr _ _ _ _ => F2
  refine Halt.mk (join_int (R := fun g => 0 ≤ g) (nm := Str.ofString "great") F2 N2 ?_ fun h3 tk3 g tg hg F3 N3 => ?_)
  rotate_left
  · clear F2 N2 mk6
    k_steps
    rename News _ _ _ _ => N9
    rename IntsAre _ (List.map _ _) => hI9
    have hl9 : ys.length ≤ 1000 := by rw [hI9.length, List.length_map, List.length_take]; omega
    exact ret _ _ ys _ _ g tg _ _ _ _ _ (Fr.keep (by k_asm)) (N9 _ (.head _)).2.2 (N9 _ (.tail _ (.head _))).2.2 (N9 _ (.head _)).1 (N9 _ (.tail _ (.head _))).1 hI9 hl9 hg (fold_range (by decide) _)
  · clear mk6
    show wpAny _ _ _ _ _ _
    k_fold
    k_steps
    · exact join_int_end (by k_asm) (by k_asm) great_nn
    all_goals exact join_int_none F2 N2 (Int.le_refl 0)
end

-- p19_kspans
/-- the heap's objects of k alone -/
def restr (h : Heap) (k : Addr → Bool) : Heap := ⟨h.objs.mapIdx fun i o => if k i then o else { o with data := .freed }, h.life⟩
theorem restr_get {h : Heap} {k : Addr → Bool} {a : Addr} : (restr h k).get? a = if k a then h.get? a else none := by
  unfold restr
  cases h with
  | mk objs l =>
    simp only [Heap.get?, Array.getElem?_mapIdx]
    cases objs[a]? with
    | none => simp
    | some o =>
      cases hk : k a
      · simp [hk]
      · simp [hk]
theorem restr_size {h : Heap} {k : Addr → Bool} : (restr h k).objs.size = h.objs.size := by
  unfold restr
  simp

section
variable {w : World} {h₀ hB h h' : Heap} {L r : Addr} {m : Str → Option Value} {news rest : List (Addr × Obj)} {items : List Value} {sp : List (Int × Int)}
theorem ns_not_dec {k1 t τ1 k2 p τ2} (hn : h.Ns L m) (hm : m (Str.ofString "top") = none) : h.get? L ≠ some (decD w k1 t τ1 k2 p τ2) := fun e => by
  obtain ⟨o, es, ep, ho, hd, _, hf⟩ := hn
  rw [e] at ho
  obtain rfl := Option.some.inj ho
  have h1 := hf (Str.ofString "top")
  rw [hm] at h1
  obtain ⟨rfl, _⟩ : es = _ ∧ True := ⟨by injection hd with a b; exact a.symm, trivial⟩
  have h2 : some (Value.int t τ1) = none := by with_unfolding_all exact h1
  cases h2
theorem ns_not_seq {c : Value} {xs : Array Value} {n : Nat} (hn : h.Ns L m) : h.get? L ≠ some ({ cls := c, data := .seq xs n } : Obj) := fun e => by
  obtain ⟨o, es, ep, ho, hd, _⟩ := hn
  rw [e] at ho
  obtain rfl := Option.some.inj ho
  cases hd
theorem ns_not_inst {C d : Addr} (hn : h.Ns L m) : h.get? L ≠ some (instObj C d) := fun e => by
  obtain ⟨o, es, ep, ho, hd, _⟩ := hn
  rw [e] at ho
  obtain rfl := Option.some.inj ho
  cases hd
theorem Sto.up {a : Addr} {o : Obj} (k : Keep h₀ hB) (x : Sto h₀ news a o) : Sto hB news a o := x.imp (k a o) id
theorem DVs.up {v : Value} {n : Int} (k : Keep h₀ hB) (x : DVs w h₀ news v n) : DVs w hB news v n := by
  obtain ⟨x, dx, k1, t, τ1, k2, p, τ2, e, a, b, c⟩ := x
  exact ⟨x, dx, k1, t, τ1, k2, p, τ2, e, a.up k, b.up k, c⟩
theorem IVs.up {v : Value} {n : Int} (k : Keep h₀ hB) (x : IVs w h₀ news v n) : IVs w hB news v n := ⟨x.1.imp id (DVs.up k), x.2⟩
theorem SpanS.down {v : Value} {q : Int × Int} (hdn : ∀ a o, hB.get? a = some o → h₀.get? a = some o ∨ a = L) (hL : hB.Ns L m) (hm : m (Str.ofString "top") = none) (x : SpanS w hB news v q) : SpanS w h₀ news v q := by
  have go : ∀ a o, hB.get? L ≠ some o → Sto hB news a o → Sto h₀ news a o := fun a o hne s => s.elim (fun e => (hdn a o e).elim .inl fun z => (hne (z ▸ e)).elim) .inr
  have god : ∀ v n, DVs w hB news v n → DVs w h₀ news v n := fun v n x => by
    obtain ⟨x, dx, k1, t, τ1, k2, p, τ2, e, a, b, c⟩ := x
    exact ⟨x, dx, k1, t, τ1, k2, p, τ2, e, go _ _ (ns_not_inst hL) a, go _ _ (ns_not_dec hL hm) b, c⟩
  obtain ⟨t, x, y, e, a, b, c⟩ := x
  exact ⟨t, x, y, e, a, god _ _ b, god _ _ c⟩
end

section
variable {w : World} {mean : ExcName → Option Value} {mg mb : Str → Option Value} {A : Around} {s : Shared} {Q E : Value → Shared → Prop} {h₀ : Heap} {L : Addr} {m : Str → Option Value} {news : List (Addr × Obj)}
/-- dash_spans, called from a frame -/
theorem k_spans {V P : Value} {l : Addr} {vs : List Value} {S : List Int} {Tn Pn : Int} {base : Heap} {fs : List Env} (F : Fr h₀ L s.heap m) (X : (hd.heap_39 w.params).In h₀) (T : Top view (looseW view [Str.ofString "PaperError"]) mean mg mb h₀) (N : News h₀ L s.heap news) (hm : m (Str.ofString "top") = none)
    (hV : IVs w h₀ news V Tn) (hl : LCg.SrcAt h₀ l vs.toArray news) (hS : All2 (IVs w h₀ news) vs S) (hSn : S.length ≤ 100) (hP : IVs w h₀ news P Pn)
    (hh : A.handled = none) (hfr : A.frames = some fs) (hkb : base.StaysIn h₀) (hFF : ∀ g, Keep h₀ g → g.get? L = s.heap.get? L → g.FunFrames base fs) (hdp : A.depth + 20 < recursionLimit) (hun : A.units + 240 < cLine)
    (ret : ∀ sp r items c h' tk' rest, ¬ BadS S Pn → ((Tn ≤ 0 ∧ sp = []) ∨ (0 < Tn ∧ S = [] ∧ sp = [(0, Tn)]) ∨ (0 < Tn ∧ S ≠ [] ∧ runS S Tn 401 (-Pn) 0 [] = some sp)) → Fr h₀ L h' m →
      News h₀ L h' ((r, listOf (List.toArray items) c) :: rest) → (∀ p ∈ news, p ∈ rest) → (∀ p ∈ rest, @Ne Nat p.1 r) → All2 (SpanS w h₀ rest) items sp → Q (.ref r) { s with heap := h', toks := tk' })
    (raise : ∀ e a0 h' tk' hx, (BadS S Pn ∨ (0 < Tn ∧ S ≠ [] ∧ runS S Tn 401 (-Pn) 0 [] = none)) → Heap.FlyingW base fs e (.ref 59) a0 h' → Fr h₀ L hx m → hx.UpToSlots h' → E (.ref e) { s with heap := h', toks := tk' }) :
    wpAny (model PySem.Challenge.rw_nn0117_01.row.prog w) A (call (.ref 199) [V, .ref l, P]) Q E s := by
  obtain ⟨oL, _, _, hoL, _⟩ := id F.ns
  have hkL : restr s.heap (fun a => (h₀.get? a).isSome || a == L) = restr s.heap (fun a => (h₀.get? a).isSome || a == L) := rfl
  generalize hB' : restr s.heap (fun a => (h₀.get? a).isSome || a == L) = hB at hkL
  have hget : ∀ a, hB.get? a = if (h₀.get? a).isSome || a == L then s.heap.get? a else none := fun a => by rw [← hB']; exact restr_get
  have hgL : hB.get? L = s.heap.get? L := by rw [hget]; simp
  have kB : Keep h₀ hB := fun b o e => by rw [hget, e]; simpa using F.keep b o e
  have ks : Keep hB s.heap := fun b o e => by
    rw [hget] at e
    split at e
    · exact e
    · cases e
  have hdn : ∀ a o, hB.get? a = some o → h₀.get? a = some o ∨ a = L := fun a o e => by
    have e' := e
    rw [hget] at e
    split at e
    · rename_i hk
      rcases Bool.or_eq_true_iff.mp hk with hk | hk
      · obtain ⟨o', ho'⟩ := Option.isSome_iff_exists.mp hk
        have := F.keep a o' ho'
        rw [e] at this
        exact .inl (by rw [ho', this])
      · exact .inr (beq_iff_eq.mp hk)
    · cases e
  have nsB : hB.Ns L m := F.ns.at' fun o e => by rw [hgL]; exact e
  have hsz : hB.objs.size ≤ s.heap.objs.size := by rw [← hB', restr_size]; exact Nat.le_refl _
  clear hkL hB'
  have back : ∀ h', Keep hB h' → Fr h₀ L h' m := fun h' k => ⟨nsB.at' fun o e => k L o e, fun b o e => k b o (kB b o e), F.above⟩
  refine c_spans ks hsz (fun q hq => ⟨(N q hq).1, ?_⟩) (X.keeps kB) (T.keeps kB) (hV.up kB) (hl.imp (fun ⟨o, e, r⟩ => ⟨o, kB _ _ e, r⟩) id) (hS.imp fun _ _ z => z.up kB) hSn (hP.up kB) hh hfr (fun b o e => kB b o (hkb b o e)) (hFF hB kB hgL) hdp hun ?_ ?_
  · rw [hget, (N q hq).2.2]
    simp [(N q hq).2.1]
  · intro sp r items c h' tk' rest nb hc k hN hs hne hsp
    exact ret sp r items c h' tk' rest nb hc (back h' k) (fun p hp => ⟨(hN p hp).1, (fun z => by have h9 := (hN p hp).2; rw [z, hgL, hoL] at h9; cases h9), Keep.none kB (hN p hp).2⟩) hs hne (hsp.imp fun _ _ z => z.down hdn nsB hm)
  · intro e a0 h' tk' hc hf hu
    exact raise e a0 h' tk' hB hc hf (back hB (Keep.refl _)) hu
end

-- p20_bound
theorem ff_cons {base h₀ h : Heap} {L : Addr} {m : Str → Option Value} {fs : List Env} (F : Fr h₀ L h m) (hkb : base.StaysIn h₀) (hFF : h₀.FunFrames base fs) (env : Env) (hk : env.scope.kind = .function) (hf : env.frame = some L) :
    ∀ g, Keep h₀ g → g.get? L = h.get? L → g.FunFrames base (env :: fs) := fun g kg eg => by
  refine .cons (by rw [hk]; decide) hf (F.ns.at' fun o e => by rw [eg]; exact e) ?_ (hFF.of_keeps fun b o e _ => ⟨o, kg b o e, rfl⟩)
  cases hq : base.get? L with
  | none => rfl
  | some o => exact absurd (Nat.lt_of_lt_of_le (Heap.lt_size (hkb L o hq)) F.above) (Nat.lt_irrefl _)
theorem fr_onto {b h₀ h : Heap} {L : Addr} {m : Str → Option Value} (k : b.StaysIn h₀) (z : b.objs.size ≤ h₀.objs.size) (F : Fr h₀ L h m) : Fr b L h m := ⟨F.ns, fun a o e => F.keep a o (k a o e), Nat.le_trans z F.above⟩
theorem not_bad1 : ¬ BadS [10] 0 := not_bad (by decide) (.head _) (by decide) (by decide)
theorem run_401 : (runS [10] 4010 401 (-0) 0 []).map List.length = some 201 := by decide +kernel
theorem run_402 : runS [10] 4020 401 (-0) 0 [] = none := by decide +kernel
theorem line_p20_1 : True := by
  (k_with "call ref" => (k_here; (with_reducible show wpAny _ _ (call (Value.ref 199) _) _ _ _); refine Halt.out ?_))
  trivial
section
variable {w : World} {mean : ExcName → Option Value} {mg mb : Str → Option Value} {A : Around} {s : Shared} {Q E : Value → Shared → Prop}
set_option maxHeartbeats 4000000 in
theorem c_isbound {base : Heap} {fs : List Env} (Xb : (hd.heap_39 w.params).In base) (Tb : Top view (looseW view [Str.ofString "PaperError"]) mean mg mb base)
    (hh : A.handled = none) (hfr : A.frames = some fs) (hkb : base.StaysIn s.heap) (hbz : base.objs.size ≤ s.heap.objs.size) (hFF : s.heap.FunFrames base fs) (hdp : A.depth + 30 < recursionLimit) (hun : A.units + 300 < cLine)
    (ret : ∀ hx h' tk', base.StaysIn h' → Keep s.heap hx → hx.UpToSlots h' → Q (.bool true) { s with heap := h', toks := tk' }) :
    wpAny (model PySem.Challenge.rw_nn0117_01.row.prog w) A (call (.ref 260) []) Q E s := by
  (revert Xb; k_fill; intro Xb)
  have X := Xb.keeps hkb
  have T := Tb.keeps hkb
  obtain ⟨_, dp, fr, gd, un⟩ := A
  obtain rfl : _ = none := hh
  obtain rfl : _ = some fs := hfr
  refine enterP X T (by k_is) (by k_is) (by ktr_room) (binds := []) (BindsTo.of_eq rfl) (locs rfl) ?_ (by decide) rfl rfl rfl
  intro L' h' F' N'
  try dsimp only
  try k_fold
  k_steps
  refine Halt.mk (k_spans (S := [10]) (Tn := 4010) (Pn := 0) (vs := [.int 1 _]) (base := base) (by k_asm) X T (by k_asm) rfl ⟨.inl ⟨401, _, rfl, rfl⟩, by decide⟩ (.inr ⟨_, by k_mem, rfl, _, rfl⟩) (.cons ⟨.inl ⟨1, _, rfl, rfl⟩, by decide⟩ .nil) (by decide) ⟨.inl ⟨0, _, rfl, rfl⟩, by decide⟩ rfl rfl hkb (ff_cons (by k_asm) hkb hFF _ rfl rfl) (by ktr_room) (by ktr_units) ?_ ?_)
  rotate_left
  · intro e a0 h2 tk2 hx hc
    rcases hc with hc | ⟨_, _, hc⟩
    · exact (not_bad1 hc).elim
    · have := run_401
      rw [hc] at this
      cases this
  intro sp r items c h2 tk2 rest nb hc F2 N2 hs hne hsp
  have hl2 : items.length = 201 := by
    rw [hsp.length]
    rcases hc with ⟨hc, _⟩ | ⟨_, hc, _⟩ | ⟨_, _, hc⟩
    · exact absurd hc (by decide)
    · cases hc
    · have := run_401
      rw [hc] at this
      exact Option.some.inj this
  clear hc hsp
  k_steps
  · exfalso
    omega
  refine Halt.mk (k_spans (S := [10]) (Tn := 4020) (Pn := 0) (vs := [.int 1 _]) (base := base) (by k_asm) X T (by k_asm) rfl ⟨.inl ⟨402, _, rfl, rfl⟩, by decide⟩ (.inr ⟨_, by k_mem, rfl, _, rfl⟩) (.cons ⟨.inl ⟨1, _, rfl, rfl⟩, by decide⟩ .nil) (by decide) ⟨.inl ⟨0, _, rfl, rfl⟩, by decide⟩ rfl rfl hkb (ff_cons (by k_asm) hkb hFF _ rfl rfl) (by ktr_room) (by ktr_units) ?_ ?_)
  · intro sp r items c h2 tk2 rest nb hc
    exfalso
    rcases hc with ⟨hc, _⟩ | ⟨_, hc, _⟩ | ⟨_, _, hc⟩
    · exact absurd hc (by decide)
    · cases hc
    · have := run_402
      rw [hc] at this
      cases this
  intro e a0 h2 tk2 hx hc hf hF hu
  clear hc
  refine caught_paint rfl rfl hf (fr_onto hkb hbz hF) hu (Xb 59 _ (by k_is)) (by decide +kernel) ?_ ?_
  · intro A' s₁ E' Q' F5 hQ
    have X5 := Xb.keeps F5.keep
    have T5 := Tb.keeps F5.keep
    clear hF hu hf
    k_steps
    exact hQ
  · intro h9 F9 hu9
    have kx : Keep s.heap hx := hF.keep
    clear hF hu hf
    k_steps
    exact ret _ _ _ (fun b o e => F9.keep b o e) kx hu9
end

-- p21_plain
/-- the tenth r beyond turn's beginning lies in a drawn part (g: the parts' lengths) -/
inductive WalkD (g : Nat → Int) : Nat → Int → Bool → Prop
  | stop {t r} : r < g t → WalkD g t r (t % 2 == 0)
  | go {t r b} : ¬ r < g t → WalkD g (t + 1) (r - g t) b → WalkD g t r b
noncomputable def okL (T : Int) : Int → List (Int × Int) → Prop
  | _, [] => True
  | last, q :: r => ¬ (q.1 < last ∨ q.2 < q.1 ∨ q.2 > T) ∧ okL T q.2 r
def insideN (place : Int) (l : List (Int × Int)) : Nat := l.countP fun q => decide (q.1 ≤ place ∧ place < q.2)
def loneOf (l : List (Int × Int)) : List Int := (l.filter fun q => decide (q.1 = q.2)).map (·.1)

theorem runS_tail {S : List Int} {T : Int} (hS : ∀ k, 0 ≤ S.getD k 0) (hT : 0 < T) : ∀ (n : Nat) (a : Int) (t : Nat) (found sp : List (Int × Int)), runS S T n a t found = some sp →
    ∃ rest, sp = found ++ rest ∧ (∀ last, last ≤ max a 0 → okL T last rest) ∧
      (∀ place, 0 ≤ place → place < T → (place < a → insideN place rest = 0) ∧ (a ≤ place → ∃ b, WalkD (fun k => S.getD (k % S.length) 0) t (place - a) b ∧ insideN place rest = if b then 1 else 0)) ∧
      (∀ fl, loneR S T n a t fl = some (fl ++ loneOf rest)) := by
  intro n
  induction n with
  | zero =>
    intro a t found sp h
    rw [runS] at h
    split at h
    · cases h
    · rename_i ha
      obtain rfl := Option.some.inj h
      refine ⟨[], by simp, fun _ _ => trivial, fun place h0 h1 => ⟨fun _ => rfl, fun h2 => by omega⟩, fun fl => ?_⟩
      rw [loneR, if_neg ha]
      simp [loneOf]
  | succ n ih =>
    intro a t found sp h
    rw [runS] at h
    split at h
    rotate_left
    · rename_i ha
      obtain rfl := Option.some.inj h
      refine ⟨[], by simp, fun _ _ => trivial, fun place h0 h1 => ⟨fun _ => rfl, fun h2 => by omega⟩, fun fl => ?_⟩
      rw [loneR, if_neg ha]
      simp [loneOf]
    · rename_i ha
      have hg := hS (t % S.length)
      generalize hv : S.getD (t % S.length) 0 = v at h hg
      split at h
      · rename_i hc
        obtain ⟨rest, rfl, r1, r2, r3⟩ := ih _ _ _ _ h
        refine ⟨(max a 0, min (a + v) T) :: rest, by simp, ?_, ?_, ?_⟩
        · intro last hl
          refine ⟨?_, r1 _ ?_⟩
          · show ¬ (max a 0 < last ∨ min (a + v) T < max a 0 ∨ min (a + v) T > T)
            omega
          · show min (a + v) T ≤ max (a + v) 0
            omega
        · intro place h0 h1
          obtain ⟨s1, s2⟩ := r2 place h0 h1
          refine ⟨fun h2 => ?_, fun h2 => ?_⟩
          · have := s1 (by omega)
            unfold insideN at this ⊢
            rw [List.countP_cons_of_neg (by show ¬ decide (max a 0 ≤ place ∧ place < min (a + v) T) = true; rw [decide_eq_true_iff]; omega), this]
          · by_cases h3 : place < a + v
            · have := s1 h3
              refine ⟨_, .stop (by show place - a < S.getD (t % S.length) 0; rw [hv]; omega), ?_⟩
              unfold insideN at this ⊢
              rw [List.countP_cons_of_pos (by show decide (max a 0 ≤ place ∧ place < min (a + v) T) = true; rw [decide_eq_true_iff]; omega), this]
              rw [hc.1]
              rfl
            · obtain ⟨b, hb, hn⟩ := s2 (by omega)
              refine ⟨b, .go (by show ¬ place - a < S.getD (t % S.length) 0; rw [hv]; omega) ?_, ?_⟩
              · rw [hv, show place - a - v = place - (a + v) by omega]
                exact hb
              · unfold insideN at hn ⊢
                rw [List.countP_cons_of_neg (by show ¬ decide (max a 0 ≤ place ∧ place < min (a + v) T) = true; rw [decide_eq_true_iff]; omega), hn]
        · intro fl
          rw [loneR, if_pos ha, hv, r3]
          by_cases h4 : t % 2 = 0 ∧ v = 0 ∧ 0 ≤ a
          · rw [if_pos h4]
            have : loneOf ((max a 0, min (a + v) T) :: rest) = a :: loneOf rest := by
              unfold loneOf
              rw [List.filter_cons_of_pos (by show decide (max a 0 = min (a + v) T) = true; rw [decide_eq_true_iff]; omega), List.map_cons]
              show max a 0 :: _ = _
              rw [show max a 0 = a by omega]
            rw [this]
            simp
          · rw [if_neg h4]
            have : loneOf ((max a 0, min (a + v) T) :: rest) = loneOf rest := by
              unfold loneOf
              rw [List.filter_cons_of_neg (by show ¬ decide (max a 0 = min (a + v) T) = true; rw [decide_eq_true_iff]; have := hc.1; omega)]
            rw [this]
      · rename_i hc
        obtain ⟨rest, rfl, r1, r2, r3⟩ := ih _ _ _ _ h
        refine ⟨rest, rfl, fun last hl => r1 last (by omega), ?_, ?_⟩
        · intro place h0 h1
          obtain ⟨s1, s2⟩ := r2 place h0 h1
          refine ⟨fun h2 => s1 (by omega), fun h2 => ?_⟩
          by_cases h3 : place < a + v
          · refine ⟨_, .stop (by show place - a < S.getD (t % S.length) 0; rw [hv]; omega), ?_⟩
            rw [s1 h3]
            have : ¬ t % 2 = 0 := fun z => hc ⟨z, by omega⟩
            rw [if_neg (by rw [beq_iff_eq]; exact this)]
          · obtain ⟨b, hb, hn⟩ := s2 (by omega)
            refine ⟨b, .go (by show ¬ place - a < S.getD (t % S.length) 0; rw [hv]; omega) ?_, hn⟩
            rw [hv, show place - a - v = place - (a + v) by omega]
            exact hb
        · intro fl
          rw [loneR, if_pos ha, hv, r3]
          by_cases h4 : t % 2 = 0 ∧ v = 0 ∧ 0 ≤ a
          · exact absurd ⟨h4.1, .inr h4.2.2⟩ hc
          · rw [if_neg h4]

/-- from a turn at which a pattern begins, the walk finds what the pattern's own reckoning finds -/
theorem walk_suffix {p : List Int} {g : Nat → Int} (hg : ∀ q i, i < p.length → g (q * p.length + i) = p.getD i 0) (he : p.length % 2 = 0) (q : Nat) : ∀ (suf pre : List Int) (r : Int) (b : Bool), p = pre ++ suf → WalkD g (q * p.length + pre.length) r b →
    (r < suf.sum → (∀ x ∈ suf, 0 ≤ x) → 0 ≤ r → b = drawnF suf pre.length r) ∧ (suf.sum ≤ r → (∀ x ∈ suf, 0 ≤ x) → WalkD g ((q + 1) * p.length) (r - suf.sum) b) := by
  intro suf
  induction suf with
  | nil =>
    intro pre r b e h
    refine ⟨fun h1 _ h2 => by rw [List.sum_nil] at h1; omega, fun _ _ => ?_⟩
    have hl : pre.length = p.length := by rw [e]; simp
    rw [hl] at h
    rw [Nat.succ_mul, List.sum_nil, Int.sub_zero]
    exact h
  | cons x suf ih =>
    intro pre r b e h
    have hi : pre.length < p.length := by rw [e]; simp
    have hx : g (q * p.length + pre.length) = x := by
      rw [hg q _ hi, e]
      simp [List.getD_eq_getElem?_getD]
    have hpar : (q * p.length + pre.length) % 2 = pre.length % 2 := by
      rw [Nat.add_mod, Nat.mul_mod, he]; simp
    cases h with
    | stop h =>
      rw [hx] at h
      refine ⟨fun _ _ _ => ?_, fun h1 h2 => ?_⟩
      · rw [drawnF, if_pos h, hpar]
      · have : 0 ≤ suf.sum := by
          clear ih e h1 h hx
          have h3 : ∀ y ∈ suf, 0 ≤ y := fun y hy => h2 y (.tail _ hy)
          clear h2
          induction suf with
          | nil => exact Int.le_refl _
          | cons y l il => rw [List.sum_cons]; have := il fun z hz => h3 z (.tail _ hz); have := h3 y (.head _); omega
        rw [List.sum_cons] at h1
        omega
    | go h hw =>
      rw [hx] at h hw
      have := ih (pre ++ [x]) (r - x) b (by rw [e]; simp) (by rw [List.length_append, List.length_singleton, ← Nat.add_assoc]; exact hw)
      obtain ⟨i1, i2⟩ := this
      rw [List.length_append, List.length_singleton] at i1
      refine ⟨fun h1 h2 h3 => ?_, fun h1 h2 => ?_⟩
      · rw [List.sum_cons] at h1
        rw [drawnF, if_neg h]
        exact i1 (by omega) (fun y hy => h2 y (.tail _ hy)) (by omega)
      · rw [List.sum_cons] at h1 ⊢
        rw [show r - (x + suf.sum) = r - x - suf.sum by omega]
        exact i2 (by omega) fun y hy => h2 y (.tail _ hy)

theorem walk_drawn {p : List Int} {g : Nat → Int} (hg : ∀ q i, i < p.length → g (q * p.length + i) = p.getD i 0) (he : p.length % 2 = 0) (hp : ∀ x ∈ p, 0 ≤ x) (hs : 1 ≤ p.sum) : ∀ (n : Nat) (q : Nat) (r : Int) (b : Bool), r.toNat ≤ n → 0 ≤ r → WalkD g (q * p.length) r b → b = drawnF p 0 (r.fmod p.sum) := by
  intro n
  induction n with
  | zero =>
    intro q r b hn h0 h
    obtain rfl : r = 0 := by omega
    have := (walk_suffix hg he q p [] 0 b rfl h).1 (by omega) hp (by omega)
    rw [this]
    simp
  | succ n ih =>
    intro q r b hn h0 h
    by_cases h1 : r < p.sum
    · have := (walk_suffix hg he q p [] r b rfl h).1 h1 hp h0
      rw [this, Int.fmod_eq_emod_of_nonneg _ (by omega), Int.emod_eq_of_lt h0 h1]
      rfl
    · have := (walk_suffix hg he q p [] r b rfl h).2 (by omega) hp
      rw [ih (q + 1) (r - p.sum) b (by omega) (by omega) this]
      rw [Int.fmod_eq_emod_of_nonneg _ (by omega), Int.fmod_eq_emod_of_nonneg _ (by omega), Int.sub_emod_right]

theorem getD_nonneg {S : List Int} (h0 : ∀ x ∈ S, 0 ≤ x) (k : Nat) : 0 ≤ S.getD k 0 := by
  rw [List.getD_eq_getElem?_getD]
  cases h : S[k]? with
  | none => exact Int.le_refl _
  | some x => exact h0 x (List.mem_of_getElem? h)
/-- what n parts from turn t on add -/
noncomputable def adv (g : Nat → Int) : Nat → Nat → Int
  | _, 0 => 0
  | t, n + 1 => g t + adv g (t + 1) n
theorem adv_add {g : Nat → Int} : ∀ (a t b : Nat), adv g t (a + b) = adv g t a + adv g (t + a) b := by
  intro a
  induction a with
  | zero => intro t b; simp [adv]
  | succ a ih =>
    intro t b
    rw [show a + 1 + b = a + b + 1 by omega, adv, adv, ih, show t + 1 + a = t + (a + 1) by omega]
    omega
theorem adv_nonneg {g : Nat → Int} (hg : ∀ k, 0 ≤ g k) : ∀ (n t : Nat), 0 ≤ adv g t n := by
  intro n
  induction n with
  | zero => intro t; exact Int.le_refl _
  | succ n ih => intro t; rw [adv]; have := ih (t + 1); have := hg t; omega
theorem adv_list {p : List Int} {g : Nat → Int} {q : Nat} (hg : ∀ i, i < p.length → g (q * p.length + i) = p.getD i 0) : ∀ (suf pre : List Int), p = pre ++ suf → adv g (q * p.length + pre.length) suf.length = suf.sum := by
  intro suf
  induction suf with
  | nil => intro pre _; rfl
  | cons x suf ih =>
    intro pre e
    have hi : pre.length < p.length := by rw [e]; simp
    have hx : g (q * p.length + pre.length) = x := by
      rw [hg _ hi, e]
      simp [List.getD_eq_getElem?_getD]
    have := ih (pre ++ [x]) (by rw [e]; simp)
    rw [List.length_append, List.length_singleton, ← Nat.add_assoc] at this
    rw [List.length_cons, adv, hx, this, List.sum_cons]
theorem adv_cycles {p : List Int} {g : Nat → Int} (hg : ∀ q i, i < p.length → g (q * p.length + i) = p.getD i 0) : ∀ c : Nat, adv g 0 (c * p.length) = c * p.sum := by
  intro c
  induction c with
  | zero => simp [adv]
  | succ c ih =>
    have := adv_list (q := c) (hg c) p [] rfl
    rw [Nat.succ_mul, adv_add, ih, Nat.zero_add]
    rw [show c * p.length + ([] : List Int).length = c * p.length from rfl] at this
    rw [this]
    rw [Int.natCast_succ, Int.add_mul, Int.one_mul]
theorem gAt {p : List Int} : ∀ q i, i < p.length → (fun k => p.getD (k % p.length) 0) (q * p.length + i) = p.getD i 0 := fun q i hi => by
  show p.getD ((q * p.length + i) % p.length) 0 = _
  rw [Nat.add_comm, Nat.add_mul_mod_self_right, Nat.mod_eq_of_lt hi]
theorem runS_none {S : List Int} {T : Int} : ∀ (n : Nat) (a : Int) (t : Nat) (found : List (Int × Int)), runS S T n a t found = none → a + adv (fun k => S.getD (k % S.length) 0) t n < T := by
  intro n
  induction n with
  | zero =>
    intro a t found h
    rw [runS] at h
    split at h
    · rw [adv]; omega
    · cases h
  | succ n ih =>
    intro a t found h
    rw [runS] at h
    split at h
    · have := ih _ _ _ h
      rw [adv]
      omega
    · cases h
theorem loneR_none {S : List Int} {T : Int} : ∀ (n : Nat) (a : Int) (t : Nat) (found : List Int), loneR S T n a t found = none → a + adv (fun k => S.getD (k % S.length) 0) t n < T := by
  intro n
  induction n with
  | zero =>
    intro a t found h
    rw [loneR] at h
    split at h
    · rw [adv]; omega
    · cases h
  | succ n ih =>
    intro a t found h
    rw [loneR] at h
    split at h
    · have := ih _ _ _ h
      rw [adv]
      omega
    · cases h
theorem loneR_zero {S : List Int} {T : Int} (hT : T ≤ 0) : ∀ (n : Nat) (a : Int) (t : Nat) (found res : List Int), loneR S T n a t found = some res → res = found := by
  intro n
  induction n with
  | zero =>
    intro a t found res h
    rw [loneR] at h
    split at h
    · cases h
    · exact (Option.some.inj h).symm
  | succ n ih =>
    intro a t found res h
    rw [loneR] at h
    split at h
    · have := ih _ _ _ _ h
      rw [if_neg (by omega)] at this
      exact this
    · exact (Option.some.inj h).symm
theorem loneR_congr {S p : List Int} {T : Int} (hg : ∀ k, S.getD (k % S.length) 0 = p.getD (k % p.length) 0) : ∀ (n : Nat) (a : Int) (t : Nat) (found : List Int), loneR S T n a t found = loneR p T n a t found := by
  intro n
  induction n with
  | zero => intro a t found; rfl
  | succ n ih => intro a t found; rw [loneR, loneR, hg, ih]
/-- the pattern: an array of an odd count is taken twice -/
def patOf (S : List Int) : List Int := if S.length % 2 = 0 then S else S ++ S
theorem patOf_at {S : List Int} (k : Nat) : S.getD (k % S.length) 0 = (patOf S).getD (k % (patOf S).length) 0 := by
  unfold patOf
  split
  · rfl
  · rename_i ho
    have hn : 0 < S.length := by omega
    have h1 : k % (S ++ S).length < 2 * S.length := by rw [List.length_append]; have := Nat.mod_lt k (show 0 < S.length + S.length by omega); omega
    have h2 : k % (S ++ S).length % S.length = k % S.length := by rw [List.length_append]; exact Nat.mod_mod_of_dvd _ ⟨2, by omega⟩
    generalize k % (S ++ S).length = j at h1 h2
    rw [← h2, List.getD_eq_getElem?_getD, List.getD_eq_getElem?_getD]
    by_cases h3 : j < S.length
    · rw [Nat.mod_eq_of_lt h3, List.getElem?_append_left h3]
    · rw [List.getElem?_append_right (by omega), Nat.mod_eq_sub_mod (by omega), Nat.mod_eq_of_lt (by omega)]
theorem patOf_len {S : List Int} : (patOf S).length % 2 = 0 := by
  unfold patOf
  split
  · assumption
  · rw [List.length_append]; omega
theorem patOf_mem {S : List Int} {x : Int} (h : x ∈ patOf S) : x ∈ S := by
  unfold patOf at h
  split at h
  · exact h
  · exact (List.mem_append.mp h).elim id id
theorem patOf_sum {S : List Int} (h : 1 ≤ S.sum) : 1 ≤ (patOf S).sum := by
  unfold patOf
  split
  · exact h
  · rw [List.sum_append]; omega
theorem adv401 {S : List Int} (hn : S.length ≤ 4) (h0 : ∀ x ∈ S, 0 ≤ x) (hs : 1 ≤ S.sum) : 100 ≤ adv (fun k => S.getD (k % S.length) 0) 0 401 := by
  have h1 : 401 = 100 * S.length + (401 - 100 * S.length) := by omega
  rw [h1, adv_add, adv_cycles gAt]
  have := adv_nonneg (g := fun k => S.getD (k % S.length) 0) (fun k => getD_nonneg h0 _) (401 - 100 * S.length) (0 + 100 * S.length)
  omega
/-- the plain law -/
theorem plain {S : List Int} {T P : Int} (hn : S.length ≤ 4) (h0 : ∀ x ∈ S, 0 ≤ x) (hs : 1 ≤ S.sum) (hP : 0 ≤ P ∧ P ≤ 29) (hT : 0 < T ∧ T ≤ 59) :
    ∃ sp, runS S T 401 (-P) 0 [] = some sp ∧ okL T 0 sp ∧ (∀ place, 0 ≤ place → place < T → insideN place sp = if drawnF (patOf S) 0 ((place + P).fmod (patOf S).sum) then 1 else 0) ∧ loneR (patOf S) T 401 (-P) 0 [] = some (loneOf sp) := by
  cases hr : runS S T 401 (-P) 0 [] with
  | none =>
    have := runS_none _ _ _ _ hr
    have := adv401 hn h0 hs
    omega
  | some sp =>
    obtain ⟨rest, rfl, r1, r2, r3⟩ := runS_tail (fun k => getD_nonneg h0 k) hT.1 _ _ _ _ _ hr
    refine ⟨_, rfl, r1 0 (by omega), fun place p0 p1 => ?_, ?_⟩
    · obtain ⟨b, hb, hc⟩ := (r2 place p0 p1).2 (by omega)
      rw [show (fun k => S.getD (k % S.length) 0) = fun k => (patOf S).getD (k % (patOf S).length) 0 from funext patOf_at, show place - -P = place + P by omega] at hb
      have := walk_drawn gAt patOf_len (fun x hx => h0 x (patOf_mem hx)) (patOf_sum hs) (place + P).toNat 0 (place + P) b (Nat.le_refl _) (by omega) (by rw [Nat.zero_mul]; exact hb)
      rw [← this]
      exact hc
    · rw [← loneR_congr patOf_at, r3]
      rfl
/-- nothing lies lone in no length -/
theorem plain0 {S : List Int} {T P : Int} (hn : S.length ≤ 4) (h0 : ∀ x ∈ S, 0 ≤ x) (hs : 1 ≤ S.sum) (hP : 0 ≤ P ∧ P ≤ 29) (hT : T ≤ 0) : loneR (patOf S) T 401 (-P) 0 [] = some [] := by
  rw [← loneR_congr patOf_at]
  cases hr : loneR S T 401 (-P) 0 [] with
  | none =>
    have := loneR_none _ _ _ _ hr
    have := adv401 hn h0 hs
    omega
  | some res => rw [loneR_zero hT _ _ _ _ _ hr]

-- p22_pairs
section
open LCg PySem.Calls PySem.Spec
variable {prog : Program} {w : World} {A : Around} {E : Value → Shared → Prop} {s : Shared} {h₀ : Heap} {L : Addr} {m : Str → Option Value} {env : Env}
/-- a comprehension's loop over any target, with one test -/
theorem loop_own {elt target iter ct : PySem.Expr} {scope : Scope} {pos : Pos} {it acc : Value} {R : Result → Shared → Prop} (I : Nat → Shared → Prop)
    (turn : ∀ n s, I n s → wpAny (model prog w) A (pyNext it) (fun r s₁ => match r with
      | none => R (.ok .next) s₁
      | some v => wpAny (model prog w) A (letOwnedTupleGo target it v) (fun _ s₁' => wpAny (model prog w) A (assign target env v) (fun _ s₂ =>
          wpAny (model prog w) A (isTrue ct env (eval ct env)) (fun ok s₃ => if ok = true then wpAny (model prog w) A (eval elt env) (fun x s₄ =>
              wpAny (model prog w) A (call (.builtin "list.append") [acc, x]) (fun _ s₅ => ∃ m, m < n ∧ I m s₅) (notedBy (model prog w) A env fun e s' => R (.error e) s') s₄) (notedBy (model prog w) A env fun e s' => R (.error e) s') s₃
            else ∃ m, m < n ∧ I m s₃) (notedBy (model prog w) A env fun e s' => R (.error e) s') s₂)
          (notedBy (model prog w) A env fun e s' => R (.error e) s') s₁') (notedBy (model prog w) A env fun e s' => R (.error e) s') s₁) (notedBy (model prog w) A env fun e s' => R (.error e) s') s)
    (n : Nat) (h : I n s) : codeAny (model prog w) A (.compLoop (.ListComp elt [⟨target, iter, [ct], 0⟩] scope pos) 0 it acc env) R s := by
  refine codeAny_loop rfl I (fun n s hI => ?_) n h
  show wpAny _ A ((compTurn (.ListComp elt [⟨target, iter, [ct], 0⟩] scope pos) 0 it acc env).onRaise (fun x => do noteFrame x env; theTreesLotGoes x)) _ _ s
  refine wpAny_noted ?_
  rw [compTurn_list]
  refine wpAny_bind (wpAny_standAt (wpAny_bind (wpAny_mono (turn n s hI) (fun r s₁ h₁ => ?_) fun _ _ z => z)))
  cases r with
  | none => exact wpAny_pure h₁
  | some v =>
    refine wpAny_bind (wpAny_mono h₁ (fun _ s₁' h₁' => wpAny_bind (wpAny_mono h₁' (fun _ s₂ h₂ => wpAny_bind (wpAny_tests_one (wpAny_mono h₂ (fun ok s₃ h₃ => ?_) fun _ _ z => z))) fun _ _ z => z)) fun _ _ z => z)
    cases ok with
    | false => exact wpAny_pure ⟨rfl, h₃⟩
    | true => exact wpAny_bind (wpAny_bind (wpAny_mono h₃ (fun x s₄ h₄ => wpAny_bind (wpAny_mono h₄ (fun _ s₅ h₅ => wpAny_pure (wpAny_pure ⟨rfl, h₅⟩)) fun _ _ z => z)) fun _ _ z => z))

/-- a turn: the pair's names stand in the comprehension's frame; test and item make nothing -/
def PairTurn (prog : Program) (w : World) (A : Around) (h₀ : Heap) (L : Addr) (m : Str → Option Value) (env : Env) (ct elt : PySem.Expr) (x x₂ : Str) (scope : Scope) (cl : List (Str × Addr)) (s : Shared) (news : List (Addr × Obj)) (J : Nat → List Value → Prop) (i : Nat) (ys : List Value) (v₁ v₂ : Value) : Prop :=
  ∀ I oI C oC D m₂ h tk (E' : Value → Shared → Prop), NsObj oC m₂ → m₂ x = some v₁ → m₂ x₂ = some v₂ → Fr h₀ L h m → News h₀ L h ((I, oI) :: (C, oC) :: (D, lst ys) :: news) →
    wpAny (model prog w) A (isTrue ct (compEnvC scope cl C env) (eval ct (compEnvC scope cl C env))) (fun ok s' => ∃ tk', s' = { s with heap := h, toks := tk' } ∧ if ok = true then
      wpAny (model prog w) A (eval elt (compEnvC scope cl C env)) (fun y s'' => ∃ tk'', s'' = { s with heap := h, toks := tk'' } ∧ J (i + 1) (ys ++ [y])) E' s' else J (i + 1) ys) E' { s with heap := h, toks := tk }

theorem pairs_block {ct elt iter : PySem.Expr} {x x₂ : Str} {px px₂ tp : Pos} {tkx} {scope : Scope} {cl : List (Str × Addr)} {pos : Pos} {ax : Addr} {its : Array Value} {news : List (Addr × Obj)} {RR : Value → Addr → Result → Shared → Prop} (J : Nat → List Value → Prop)
    (hsz : its.size ≤ sizeLine) (hcell : ∀ y ∈ scope.names, y.2 ≠ .cell) (hkind : scope.kind = .function) (hx : scope.names.lookup x = some .local) (hx₂ : scope.names.lookup x₂ = some .local) (hxx : x ≠ x₂) (hh : A.handled = none)
    (F : Fr h₀ L s.heap m) (N : News h₀ L s.heap news) (hl : SrcAt h₀ ax its news) (hJ : J 0 [])
    (turn : ∀ i ys v, its[i]? = some v → J i ys → ∃ (t : Addr) (ot : Obj) (v₁ v₂ : Value) (nt : Nat), v = .ref t ∧ (t, ot) ∈ news ∧ ot.cls = .type "tuple" ∧ ot.data = .seq #[v₁, v₂] nt ∧ PairTurn prog w A h₀ L m env ct elt x x₂ scope cl s news J i ys v₁ v₂)
    (hRR : ∀ D C h tk m' ys, Fr h₀ L h m → News h₀ L h ((D, lst ys) :: news) → h.Ns C m' → h₀.get? C = none → C ≠ L → C ≠ D → (∀ p ∈ news, p.1 ≠ C) → (∀ p ∈ news, p.1 ≠ D) → J its.size ys → RR (.ref D) C (.ok .next) { s with heap := h, toks := tk }) :
    wpAny (model prog w) A (pyIter (.ref ax)) (fun it s₂ => wpAny (model prog w) A (newList []) (fun acc s₃ => wpAny (model prog w) A (newFunctionEnv scope env.globals cl [] env.qual none .none (some env)) (fun cenv s₄ =>
      codeAny (model prog w) A (.compStart (.ListComp elt [⟨.Tuple [.Name x px, .Name x₂ px₂] tkx tp, iter, [ct], 0⟩] scope pos) 0 it acc { cenv with scope := relabel scope env }) (RR acc cenv.locals) s₄) E s₃) E s₂) E s := by
  have hL := hl.list F.keep N
  have hlt : ax < s.heap.objs.size := by obtain ⟨_, e, _⟩ := hL; exact Heap.lt_size e
  refine wpAny_pyIter_list hL ?_
  obtain ⟨I, hI⟩ : ∃ I, I = s.heap.objs.size := ⟨_, rfl⟩
  have W := Walks.list (prog := prog) (w := w) (A := A) hh I ax (by rw [hI]; exact Nat.ne_of_lt hlt) its
  have hst₀ : (s.heap.push { cls := .type "list_iterator", data := .fields #[.ref ax, .int 0 0] }).IsListIter I ax 0 ∧ (s.heap.push { cls := .type "list_iterator", data := .fields #[.ref ax, .int 0 0] }).IsList ax its := by
    rw [hI]
    exact ⟨⟨_, Heap.get?_push_size _ rfl, rfl, rfl⟩, hL.push _⟩
  have up : ∀ b o, s.heap.get? b = some o → (s.heap.push { cls := .type "list_iterator", data := .fields #[.ref ax, .int 0 0] }).get? b = some o := fun b o e => Heap.get?_push_of_some _ e
  have F₂ := F.keeps up
  have N₂ := N.grown up
  have hI₀ : h₀.get? I = none := by rw [hI]; exact next_is_new F
  have hIL : L ≠ I := by rw [hI]; exact Nat.ne_of_lt F.ns.lt
  have off : ∀ p ∈ news, p.1 ≠ I := fun p hp => by rw [hI]; exact Nat.ne_of_lt (Heap.lt_size (N p hp).1)
  have hax : ax ≠ I := by rw [hI]; exact Nat.ne_of_lt hlt
  show wpAny _ _ _ _ _ { s with heap := s.heap.push { cls := .type "list_iterator", data := .fields #[.ref ax, .int 0 0] } }
  rw [← hI]
  have hI1 : I < (s.heap.push { cls := .type "list_iterator", data := .fields #[.ref ax, .int 0 0] }).objs.size := by rw [Heap.size_push, hI]; exact Nat.lt_succ_self _
  generalize s.heap.push { cls := .type "list_iterator", data := .fields #[.ref ax, .int 0 0] } = H1 at *
  refine wpAny_newObj_type (wpAny_newFunctionEnv hcell (by intro y hy; simp at hy) (fun h₁ hns₁ hsb₁ => ?_) hkind)
  dsimp only at hns₁ hsb₁ ⊢
  generalize hH2 : H1.push { cls := .type "list", dict := none, data := .seq ([] : List Value).toArray } = H2 at hns₁ hsb₁ ⊢
  have hD : ∃ D, D = H1.objs.size := ⟨_, rfl⟩
  have hC : ∃ C, C = H2.objs.size := ⟨_, rfl⟩
  obtain ⟨D, hD⟩ := hD
  obtain ⟨C, hC⟩ := hC
  rw [← hC] at hns₁ hsb₁ ⊢
  rw [← hD]
  have hCs : C = D + 1 := by rw [hC, ← hH2, Heap.size_push, hD]
  have ltD : ∀ {b : Addr} {o}, H1.get? b = some o → b < D := fun e => by rw [hD]; exact Heap.lt_size e
  have neD : ∀ {b : Addr}, b < D → b ≠ D ∧ b ≠ C := fun {b} hb => ⟨Nat.ne_of_lt hb, by rw [hCs]; exact Nat.ne_of_lt (Nat.lt_succ_of_lt hb)⟩
  have hDC : D ≠ C := by rw [hCs]; exact Nat.ne_of_lt (Nat.lt_succ_self _)
  have old : ∀ b o, H1.get? b = some o → h₁.get? b = some o := fun b o e => hsb₁.extBut b o (neD (ltD e)).2 (Heap.get?_push_of_some _ (hH2 ▸ Heap.get?_push_of_some _ e))
  have hacc : h₁.get? D = some (lst []) := hsb₁.extBut _ _ hDC (Heap.get?_push_of_some _ (by rw [← hH2, hD]; exact Heap.get?_push_size _ rfl))
  have fresh₀ : ∀ a, D ≤ a → h₀.get? a = none := fun a ha => by
    cases e : h₀.get? a with
    | none => rfl
    | some o => exact absurd (ltD (F₂.keep a o e)) (Nat.not_lt.mpr ha)
  have hD₀ := fresh₀ D (Nat.le_refl _)
  have hC₀ := fresh₀ C (by rw [hCs]; exact Nat.le_succ _)
  have hLD := neD (b := L) (by rw [hD]; exact F₂.ns.lt)
  have hID := neD (b := I) (by rw [hD]; exact hI1)
  have haD := neD (b := ax) (by obtain ⟨_, e, _⟩ := hst₀.2; exact ltD e)
  have offD : ∀ p ∈ news, p.1 ≠ D ∧ p.1 ≠ C := fun p hp => neD (ltD (N₂ p hp).1)
  have stk : ∀ {i : Nat} {h h' : Heap}, (h.IsListIter I ax i ∧ h.IsList ax its) → (∀ b o, b ≠ D → b ≠ C → h.get? b = some o → h'.get? b = some o) → (h'.IsListIter I ax i ∧ h'.IsList ax its) := fun {i h h'} st k => by
    obtain ⟨⟨o1, e1, r1⟩, ⟨o2, e2, r2⟩⟩ := st
    exact ⟨⟨o1, k _ _ hID.1 hID.2 e1, r1⟩, ⟨o2, k _ _ haD.1 haD.2 e2, r2⟩⟩
  have loop : ∀ s₃ : Shared, s₃ = { s with heap := h₁, toks := s.toks + ([] : List (Str × Value)).length } →
      codeAny (model prog w) A (.compLoop (.ListComp elt [⟨.Tuple [.Name x px, .Name x₂ px₂] tkx tp, iter, [ct], 0⟩] scope pos) 0 (.ref I) (.ref D) (compEnvC scope cl C env)) (RR (.ref D) C) s₃ := by
    rintro s₃ rfl
    refine loop_own
      (fun k s' => ∃ h' tk i ys m', s' = { s with heap := h', toks := tk } ∧ i ≤ its.size ∧ k = its.size + 1 - i ∧ ys.length ≤ i ∧ (h'.IsListIter I ax i ∧ h'.IsList ax its) ∧ Fr h₀ L h' m ∧ h'.Ns C m' ∧ News h₀ L h' ((D, lst ys) :: news) ∧ J i ys) ?_ (its.size + 1)
      ⟨h₁, _, 0, [], _, rfl, Nat.zero_le _, rfl, Nat.le_refl _, stk hst₀ fun b o _ _ e => old b o e, F₂.keeps old, hns₁, fun p hp => ?_, hJ⟩
    · rintro k s' ⟨h', tk, i, ys, m', rfl, hi, rfl, hyl, hst', F', hn', N', hJ'⟩
      have N'' : ∀ {h'' : Heap}, (∀ b o, b ∉ [I] → h'.get? b = some o → h''.get? b = some o) → News h₀ L h'' ((D, lst ys) :: news) := fun k => news_but N' k fun p hp => by
        rcases List.mem_cons.mp hp with rfl | hp
        · exact Ne.symm hID.1
        · exact off p hp
      by_cases hlt : i < its.size
      · refine W.item i _ _ _ hlt hst' fun v h₂ tk₂ hPv hst₂ hk₂ => ?_
        obtain ⟨t, ot, v₁, v₂, nt, rfl, hmt, hct, hdt, body⟩ := turn i ys v hPv hJ'
        have N₂' := N'' hk₂
        have ht : IsTup h₂ t #[v₁, v₂] := ⟨ot, (N₂' _ (List.mem_cons_of_mem _ hmt)).1, hct, nt, hdt⟩
        refine wpAny_letOwnedTupleGo_listiter hst₂.1 ?_
        refine assign_Tuple_tuple hh ht rfl rfl fun h₅ he => ?_
        have he' : ∀ b o, h₂.get? b = some o → h₅.get? b = some o := fun b o e => he b o (Nat.ne_of_lt (Heap.lt_size e)) e
        refine assignInOrder_cons (wpAny_assign_Name (wpAny_storeName_local (lookup_relabel_local hx) ((hn'.at' fun o e => hk₂ _ o (by simpa using Ne.symm hID.2) e).at' fun o e => he' _ o e) (fun h₆ hn₆ hs₆ => ?_) (by simp [compEnvC, relabel, hkind])))
        refine assignInOrder_cons (wpAny_assign_Name (wpAny_storeName_local (lookup_relabel_local hx₂) hn₆ (fun h₃ hn₃ hs₃ => ?_) (by simp [compEnvC, relabel, hkind])))
        refine assignInOrder_nil ?_
        have old3 : ∀ b o, b ≠ C → h₂.get? b = some o → h₃.get? b = some o := fun b o hb e => hs₃.extBut b o hb (hs₆.extBut b o hb (he' b o e))
        have hst₃ := stk hst₂ fun b o _ hb e => old3 b o hb e
        obtain ⟨oI, heI, _⟩ := id hst₃.1
        obtain ⟨oC, heC, hoC⟩ := ns_obj hn₃
        have F₃ : Fr h₀ L h₃ m := (((fr_but F' hk₂ hIL hI₀).keeps he').change hs₆ (Ne.symm hLD.2) hC₀).change hs₃ (Ne.symm hLD.2) hC₀
        have N₃ : News h₀ L h₃ ((I, oI) :: (C, oC) :: (D, lst ys) :: news) := fun p hp => by
          rcases List.mem_cons.mp hp with rfl | hp
          · exact ⟨heI, Ne.symm hIL, hI₀⟩
          · rcases List.mem_cons.mp hp with rfl | hp
            · exact ⟨heC, Ne.symm hLD.2, hC₀⟩
            · have z := N₂' p hp
              refine ⟨old3 _ _ ?_ z.1, z.2⟩
              rcases List.mem_cons.mp hp with rfl | hp
              · exact hDC
              · exact (offD p hp).2
        have Nd : News h₀ L h₃ ((D, lst ys) :: news) := fun p hp => N₃ p (.tail _ (.tail _ hp))
        refine wpAny_mono (body I oI C oC D _ h₃ _ _ hoC (by simp [hxx]) (by simp) F₃ N₃) (fun ok s₄ h₄ => ?_) fun _ _ e => e
        obtain ⟨tk₄, rfl, h₄⟩ := h₄
        cases ok with
        | true =>
          simp only [if_true] at h₄ ⊢
          refine wpAny_mono h₄ (fun y s₅ h₅ => ?_) fun _ _ e => e
          obtain ⟨tk₅, rfl, hJ₅⟩ := h₅
          refine append_at (hsz := by show ys.toArray.size ≤ sizeLine; rw [List.size_toArray]; exact Nat.le_trans (Nat.le_trans hyl hi) hsz) (Nd _ (.head _)).1 fun h₇ hs₇ hD₇ => ?_
          refine ⟨its.size + 1 - (i + 1), by omega, h₇, _, i + 1, ys ++ [y], _, rfl, hlt, rfl, by rw [List.length_append, List.length_singleton]; exact Nat.succ_le_succ hyl, stk hst₃ fun b o hb _ e => hs₇.extBut b o hb e, F₃.change hs₇ (Ne.symm hLD.1) hD₀,
            (hoC.ns heC).sameBut hs₇ (Ne.symm hDC), fun p hp => ?_, hJ₅⟩
          rcases List.mem_cons.mp hp with rfl | hp
          · exact ⟨hD₇.trans (congrArg some (lst_snoc ys y)), Ne.symm hLD.1, hD₀⟩
          · exact ⟨hs₇.extBut _ _ (offD p hp).1 (Nd p (.tail _ hp)).1, (Nd p (.tail _ hp)).2⟩
        | false =>
          simp only [Bool.false_eq_true, if_false] at h₄ ⊢
          exact ⟨its.size + 1 - (i + 1), by omega, h₃, _, i + 1, ys, _, rfl, hlt, rfl, Nat.le_succ_of_le hyl, hst₃, F₃, hoC.ns heC, Nd, h₄⟩
      · obtain rfl : i = its.size := Nat.le_antisymm hi (Nat.not_lt.mp hlt)
        refine W.done _ _ _ hst' fun h₂ tk₂ hk₂ => ?_
        exact hRR D C h₂ tk₂ _ ys (fr_but F' hk₂ hIL hI₀) (N'' hk₂) (hn'.at' fun o e => hk₂ _ o (by simpa using Ne.symm hID.2) e) hC₀ (Ne.symm hLD.2) (Ne.symm hDC) (fun p hp => (offD p hp).2) (fun p hp => (offD p hp).1) hJ'
    · rcases List.mem_cons.mp hp with rfl | hp
      · exact ⟨hacc, Ne.symm hLD.1, hD₀⟩
      · exact ⟨old _ _ (N₂ p hp).1, (N₂ p hp).2⟩
  exact codeAny_compStart_list (loop _ rfl) (W.self 0 _ _ _ (stk hst₀ fun b o _ _ e => old b o e) (loop _ rfl))
end
section
open LCg PySem.Calls PySem.Spec
variable {prog : Program} {w : World} {A : Around} {E : Value → Shared → Prop} {s : Shared} {h₀ : Heap} {L : Addr} {m : Str → Option Value} {env : Env}
/-- what the source of such a comprehension gives -/
def PairSrc (prog : Program) (w : World) (A : Around) (h₀ : Heap) (L : Addr) (m : Str → Option Value) (env : Env) (ct elt : PySem.Expr) (x x₂ : Str) (scope : Scope) (cl : List (Str × Addr)) (Fin : Shared → List (Addr × Obj) → List Value → Prop) (xv : Value) (s₁ : Shared) : Prop :=
  ∃ (ax : Addr) (its : Array Value) (news : List (Addr × Obj)) (J : Nat → List Value → Prop), xv = .ref ax ∧ A.handled = none ∧ its.size ≤ sizeLine ∧ Fr h₀ L s₁.heap m ∧ News h₀ L s₁.heap news ∧ SrcAt h₀ ax its news ∧ J 0 [] ∧
    (∀ i ys v, its[i]? = some v → J i ys → ∃ (t : Addr) (ot : Obj) (v₁ v₂ : Value) (nt : Nat), v = .ref t ∧ (t, ot) ∈ news ∧ ot.cls = .type "tuple" ∧ ot.data = .seq #[v₁, v₂] nt ∧ PairTurn prog w A h₀ L m env ct elt x x₂ scope cl s₁ news J i ys v₁ v₂) ∧
    ∀ ys, J its.size ys → Fin s₁ news ys

theorem ListComp_PT {elt iter ct : PySem.Expr} {x x₂ : Str} {px px₂ tp : Pos} {tkx} {scope : Scope} {cl : List (Str × Addr)} {pos : Pos} {Q : Value → Shared → Prop}
    (hclos : closureFor scope env = pure cl) (hcell : ∀ y ∈ scope.names, y.2 ≠ .cell) (hkind : scope.kind = .function)
    (hnames : ∀ y ∈ scope.names, y.2 = .local → scope.names.lookup y.1 = some .local) (hx : scope.names.lookup x = some .local) (hx₂ : scope.names.lookup x₂ = some .local) (hxx : x ≠ x₂)
    (h : wpAny (model prog w) A (eval iter env) (PairSrc prog w A h₀ L m env ct elt x x₂ scope cl fun s₁ news ys => ∀ D h' tk, Fr h₀ L h' m → News h₀ L h' ((D, lst ys) :: news) → (∀ p ∈ news, p.1 ≠ D) → Q (.ref D) { s₁ with heap := h', toks := tk }) E s)
    (hs : ∀ x, foldedSetIterable iter env x = pure x := by intro _; rfl) :
    wpAny (model prog w) A (eval (.ListComp elt [⟨.Tuple [.Name x px, .Name x₂ px₂] tkx tp, iter, [ct], 0⟩] scope pos) env) Q E s := by
  rw [eval_ListComp]
  refine wpAny_comprehension_free (use := none) rfl hs hclos hkind hnames (wpAny_mono h (fun xv s₁ h₁ => ?_) fun _ _ e => e)
  obtain ⟨ax, its, news, J, rfl, hh, hsz, F, N, hl, hJ, turn, fin⟩ := h₁
  refine pairs_block J hsz hcell hkind hx hx₂ hxx hh F N hl hJ turn ?_
  intro D C h' tk m' ys F' N' hn hC₀ hCL hCD offC offD hJ'
  refine ⟨m', hn, fun h'' hs'' => fin ys hJ' D h'' tk (F'.change hs'' hCL hC₀) (fun p hp => ?_) offD⟩
  refine ⟨hs''.extBut _ _ ?_ (N' p hp).1, (N' p hp).2⟩
  rcases List.mem_cons.mp hp with rfl | hp
  · exact Ne.symm hCD
  · exact offC p hp

theorem Assign_PT {elt iter ct : PySem.Expr} {x x₂ y : Str} {px px₂ tp py : Pos} {tkx} {scope : Scope} {cl : List (Str × Addr)} {pos spos : Pos} {Q : Flow → Shared → Prop} (hLe : env.locals = L)
    (hsw : swapsWith (.ListComp elt [⟨.Tuple [.Name x px, .Name x₂ px₂] tkx tp, iter, [ct], 0⟩] scope pos) (some (.Name y py)) spos.line env = pure true)
    (hclos : closureFor scope env = pure cl) (hcell : ∀ z ∈ scope.names, z.2 ≠ .cell) (hkind : scope.kind = .function)
    (hnames : ∀ z ∈ scope.names, z.2 = .local → scope.names.lookup z.1 = some .local) (hx : scope.names.lookup x = some .local) (hx₂ : scope.names.lookup x₂ = some .local) (hxx : x ≠ x₂)
    (hy : env.kindOf y = some .local) (hp : (env.scope.kind == .class || (env.scope.kind == .module && env.locals != env.globals)) = false)
    (h : wpAny (model prog w) A (eval iter env) (PairSrc prog w A h₀ L m env ct elt x x₂ scope cl fun s₁ news ys => ∀ D h' tk, Fr h₀ L h' (fun z => if z = y then some (.ref D) else m z) → News h₀ L h' ((D, lst ys) :: news) → (∀ p ∈ news, p.1 ≠ D) → Q .next { s₁ with heap := h', toks := tk }) E s)
    (hs : ∀ x, foldedSetIterable iter env x = pure x := by intro _; rfl) :
    wpAny (model prog w) A (exec (.Assign [.Name y py] (.ListComp elt [⟨.Tuple [.Name x px, .Name x₂ px₂] tkx tp, iter, [ct], 0⟩] scope pos) spos) env) Q E s := by
  subst hLe
  rw [exec_Assign_Name_used _ _ _ _ hsw]
  refine wpAny_bind (wpAny_standAt (wpAny_bind ?_))
  show wpAny _ A (do let _ ← comprehension (.ListComp elt [⟨.Tuple [.Name x px, .Name x₂ px₂] tkx tp, iter, [ct], 0⟩] scope pos) scope env _ (newList []) false (eval iter env) (some (assign (.Name y py) env))) _ _ s
  refine wpAny_bind (wpAny_mono (wpAny_comprehension_free (use := some (assign (.Name y py) env)) (Q := fun _ s' => Q .next s') rfl hs hclos hkind hnames
    (wpAny_mono h (fun xv s₁ h₁ => ?_) fun _ _ e => e)) (fun _ s' hq => wpAny_pure (wpAny_pure hq)) fun _ _ e => e)
  obtain ⟨ax, its, news, J, rfl, hh, hsz, F, N, hl, hJ, turn, fin⟩ := h₁
  refine pairs_block J hsz hcell hkind hx hx₂ hxx hh F N hl hJ turn ?_
  intro D C h' tk m' ys F' N' hn hC₀ hCL hCD offC offD hJ'
  show wpAny _ A (assign (.Name y py) env (.ref D)) _ _ _
  refine wpAny_assign_Name (wpAny_storeName_local hy F'.ns (fun h₂ hn₂ hs₂ => ?_) hp)
  have hL₀ : h₀.get? env.locals = none := Heap.get?_none_of_le F'.above
  have F₂ : Fr h₀ env.locals h₂ (fun z => if z = y then some (.ref D) else m z) := ⟨hn₂, fun b o e => hs₂.extBut b o (fun q => by rw [q, hL₀] at e; cases e) (F'.keep b o e), F'.above⟩
  refine ⟨m', hn.sameBut hs₂ hCL, fun h'' hs'' => fin ys hJ' D h'' _ (F₂.change hs'' hCL hC₀) (fun p hp => ?_) offD⟩
  have z : h₂.get? p.1 = some p.2 := hs₂.extBut _ _ (N' p hp).2.1 (N' p hp).1
  refine ⟨hs''.extBut _ _ ?_ z, (N' p hp).2⟩
  rcases List.mem_cons.mp hp with rfl | hp
  · exact Ne.symm hCD
  · exact offC p hp
end

-- p23_forp
section
open LCg PySem.Calls PySem.Spec
variable {prog : Program} {w : World} {A : Around} {E : Value → Shared → Prop} {s : Shared} {h₀ : Heap} {env : Env}
theorem fr_store {h h' : Heap} {L : Addr} {m : Str → Option Value} {x : Str} {v : Value} (F : Fr h₀ L h m) (hn : h'.Ns L (fun z => if z = x then some v else m z)) (hs : ∀ b o, b ≠ L → h.get? b = some o → h'.get? b = some o) : Fr h₀ L h' (fun z => if z = x then some v else m z) :=
  ⟨hn, fun b o e => hs b o (fun q => by rw [q, Heap.get?_none_of_le F.above] at e; cases e) (F.keep b o e), F.above⟩
theorem news_store {h h' : Heap} {L : Addr} {news : List (Addr × Obj)} (N : News h₀ L h news) (hs : ∀ b o, b ≠ L → h.get? b = some o → h'.get? b = some o) : News h₀ L h' news := fun p hp => ⟨hs _ _ (N p hp).2.1 (N p hp).1, (N p hp).2⟩

/-- a for over a list of pairs, by an invariant over the turn's number, the frame and the ledger -/
theorem for_pairs {ax : Addr} {its : Array Value} {x x₂ : Str} {px px₂ tp : Pos} {tkx} {body : List Stmt} {Q : Flow → Shared → Prop} {m₀ : Str → Option Value} {news : List (Addr × Obj)} (J : Nat → (Str → Option Value) → List (Addr × Obj) → Prop)
    (hh : A.handled = none) (hx : env.kindOf x = some .local) (hx₂ : env.kindOf x₂ = some .local) (hp : (env.scope.kind == .class || (env.scope.kind == .module && env.locals != env.globals)) = false)
    (F : Fr h₀ env.locals s.heap m₀) (N : News h₀ env.locals s.heap news) (hl : SrcAt h₀ ax its news) (hj : J 0 m₀ news)
    (turn : ∀ i m₁ news₁ v, its[i]? = some v → J i m₁ news₁ → ∃ (t : Addr) (ot : Obj) (v₁ v₂ : Value) (nt : Nat), v = .ref t ∧ (t, ot) ∈ news₁ ∧ ot.cls = .type "tuple" ∧ ot.data = .seq #[v₁, v₂] nt ∧
      ∀ (s₁ : Shared) I h tk own, (∀ p ∈ news₁, p.1 ∉ [I]) → Fr h₀ env.locals h (fun z => if z = x₂ then some v₂ else if z = x then some v₁ else m₁ z) → News h₀ env.locals h (own ++ news₁) →
      wpAny (model prog w) A (execs body env) (LoopStepU h₀ env.locals [I] own (J (i + 1)) s₁) E { s₁ with heap := h, toks := tk })
    (done : ∀ m₁ news₁ h tk, J its.size m₁ news₁ → Fr h₀ env.locals h m₁ → News h₀ env.locals h news₁ → Q .next { s with heap := h, toks := tk }) :
    wpAny (model prog w) A (pyIter (.ref ax)) (fun it s₂ => LoopAtT prog w A h₀ env (.Tuple [.Name x px, .Name x₂ px₂] tkx tp) body Q E it s₂) E s := by
  have hL := hl.list F.keep N
  have hlt : ax < s.heap.objs.size := by obtain ⟨_, e, _⟩ := hL; exact Heap.lt_size e
  refine wpAny_pyIter_list hL ?_
  have W := Walks.list (prog := prog) (w := w) (A := A) hh s.heap.objs.size ax (Nat.ne_of_lt hlt) its
  have up : ∀ b o, s.heap.get? b = some o → (s.heap.push { cls := .type "list_iterator", data := .fields #[.ref ax, .int 0 0] }).get? b = some o := fun b o e => Heap.get?_push_of_some _ e
  refine ⟨_, _, _, its.size, _, _, m₀, news, J, rfl, W, ?_, ?_, ?_, ⟨⟨_, Heap.get?_push_size _ rfl, rfl, rfl⟩, hL.push _⟩, F.keeps up, N.grown up, ?_, hj, ?_, ?_⟩
  · intro hm
    rcases List.mem_cons.mp hm with hm | hm
    · exact absurd F.ns.lt (hm ▸ Nat.lt_irrefl _)
    · rw [List.mem_singleton] at hm
      obtain ⟨o, es, ep, ho, hd, _⟩ := F.ns
      obtain ⟨o', ho', _, k, hd'⟩ := hL
      rw [hm, ho'] at ho
      cases ho
      rw [hd'] at hd
      cases hd
  · intro b hb
    rw [List.mem_singleton.mp hb]
    exact next_is_new F
  · intro p hp hI
    exact absurd (Heap.lt_size (N p hp).1) ((List.mem_singleton.mp hI) ▸ Nat.lt_irrefl _)
  · intro i s' v Q' st q
    cases v with
    | ref T => exact wpAny_letOwnedTupleGo_listiter st.1 q
    | _ => exact wpAny_pure q
  · rintro i v m₁ news₁ s₁ own hin hv hJ hoff hown _ _ _ F₁ N₁
    obtain ⟨t, ot, v₁, v₂, nt, rfl, hmt, hct, hdt, bd⟩ := turn i m₁ news₁ v hv hJ
    have ht : IsTup s₁.heap t #[v₁, v₂] := ⟨ot, (N₁ _ (List.mem_append_right _ hmt)).1, hct, nt, hdt⟩
    refine assign_Tuple_tuple hh ht rfl rfl fun h₅ he => ?_
    have he' : ∀ b o, s₁.heap.get? b = some o → h₅.get? b = some o := fun b o e => he b o (Nat.ne_of_lt (Heap.lt_size e)) e
    have F₅ := F₁.keeps he'
    have N₅ := N₁.grown he'
    refine assignInOrder_cons (wpAny_assign_Name (wpAny_storeName_local hx F₅.ns (fun h₆ hn₆ hs₆ => ?_) hp))
    have F₆ := fr_store F₅ hn₆ fun b o n e => hs₆.extBut b o n e
    have N₆ := news_store N₅ fun b o n e => hs₆.extBut b o n e
    refine assignInOrder_cons (wpAny_assign_Name (wpAny_storeName_local hx₂ F₆.ns (fun h₃ hn₃ hs₃ => ?_) hp))
    have F₃ := fr_store F₆ hn₃ fun b o n e => hs₃.extBut b o n e
    have N₃ := news_store N₆ fun b o n e => hs₃.extBut b o n e
    refine assignInOrder_nil ?_
    exact bd s₁ _ h₃ _ own hoff F₃ N₃
  · rintro h' tk m' news' F' N' _ hJ
    exact done m' news' h' tk hJ F' N'
end

-- p24_cmp
section
open PySem.SeqAt
variable {prog : Program} {w : World} {A : Around} {E : Value → Shared → Prop} {s : Shared}
theorem range_all (n : Nat) : (List.range n).all (fun _ => true) = true := List.all_eq_true.mpr fun _ _ => rfl
/-- tuples of two, equal part by part -/
theorem eq_pair {a b : Addr} {v1 v2 w1 w2 : Value} (ha : s.heap.IsTuple a #[v1, v2]) (hb : s.heap.IsTuple b #[w1, w2]) (hu : A.units < cLine) (h1 : EqAt A.in1 s v1 w1 true) (h2 : EqAt A.in1 s v2 w2 true) : EqAt A s (.ref a) (.ref b) true := by
  by_cases e : a = b
  · rw [e]
    exact EqAt.same _
  · exact EqAt.of_refs e (RcAt.tuples (e := fun _ => true) ha hb hu fun j j1 _ => match j, j1 with
      | 0, _ => h1
      | 1, _ => h2)
/-- a tuple of two ints -/
def Ints2 (h : Heap) (v : Value) (q : Int × Int) : Prop := ∃ (t : Addr) (k1 k2 : Tok), v = .ref t ∧ h.IsTuple t #[.int q.1 k1, .int q.2 k2]
theorem eq_ints2 {v v' : Value} {q : Int × Int} (x : Ints2 s.heap v q) (x' : Ints2 s.heap v' q) (hu : A.units < cLine) : EqAt A s v v' true := by
  obtain ⟨t, k1, k2, rfl, ht⟩ := x
  obtain ⟨t', k1', k2', rfl, ht'⟩ := x'
  refine eq_pair ht ht' hu ?_ ?_
  · have := EqAt.int_int (A := A.in1) (s := s) q.1 k1 q.1 k1'
    rwa [beq_self_eq_true] at this
  · have := EqAt.int_int (A := A.in1) (s := s) q.2 k2 q.2 k2'
    rwa [beq_self_eq_true] at this
/-- a tuple of two such -/
def Told2 (h : Heap) (v : Value) (q : (Int × Int) × (Int × Int)) : Prop := ∃ (t : Addr) (a b : Value), v = .ref t ∧ h.IsTuple t #[a, b] ∧ Ints2 h a q.1 ∧ Ints2 h b q.2
theorem eq_told2 {v v' : Value} {q : (Int × Int) × (Int × Int)} (x : Told2 s.heap v q) (x' : Told2 s.heap v' q) (hu : A.units + 1 < cLine) : EqAt A s v v' true := by
  obtain ⟨t, a, b, rfl, ht, ha, hb⟩ := x
  obtain ⟨t', a', b', rfl, ht', ha', hb'⟩ := x'
  have hu1 : A.in1.units < cLine := hu
  exact eq_pair ht ht' (Nat.lt_of_succ_lt hu) (eq_ints2 ha ha' hu1) (eq_ints2 hb hb' hu1)
theorem ne_told {l l' : Addr} {vs vs' : List Value} {qs : List ((Int × Int) × (Int × Int))} {Q : Value → Shared → Prop} (hl : s.heap.IsList l vs.toArray) (hl' : s.heap.IsList l' vs'.toArray) (x : All2 (Told2 s.heap) vs qs) (x' : All2 (Told2 s.heap) vs' qs) (hu : A.units + 2 < cLine)
    (h : Q (.bool false) s) : wpAny (model prog w) A (compareOp .NotEq (.ref l) (.ref l')) Q E s := by
  have hu1 : A.in1.units + 1 < cLine := hu
  have hr := RcNeAt.lists (A := A) (s := s) (e := fun _ => true) hl hl' (by rw [List.size_toArray, List.size_toArray, x.length, x'.length]) (by omega) fun j j1 j2 => by
    rw [List.size_toArray] at j1 j2
    rw [List.getElem_toArray, List.getElem_toArray]
    obtain ⟨q, hq, a⟩ := x.get (List.getElem?_eq_getElem j1)
    obtain ⟨q', hq', a'⟩ := x'.get (List.getElem?_eq_getElem j2)
    rw [hq] at hq'
    cases hq'
    exact eq_told2 a a' hu1
  rw [range_all] at hr
  exact hr prog w E Q h
theorem eq_pairs {l l' : Addr} {vs vs' : List Value} {qs : List (Int × Int)} {Q : Value → Shared → Prop} (hl : s.heap.IsList l vs.toArray) (hl' : s.heap.IsList l' vs'.toArray) (x : All2 (Ints2 s.heap) vs qs) (x' : All2 (Ints2 s.heap) vs' qs) (hu : A.units + 1 < cLine)
    (h : Q (.bool true) s) : wpAny (model prog w) A (compareOp .Eq (.ref l) (.ref l')) Q E s := by
  have hu1 : A.in1.units < cLine := hu
  have hr := RcAt.lists (A := A) (s := s) (e := fun _ => true) hl hl' (by rw [List.size_toArray, List.size_toArray, x.length, x'.length]) (by omega) fun j j1 j2 => by
    rw [List.size_toArray] at j1 j2
    rw [List.getElem_toArray, List.getElem_toArray]
    obtain ⟨q, hq, a⟩ := x.get (List.getElem?_eq_getElem j1)
    obtain ⟨q', hq', a'⟩ := x'.get (List.getElem?_eq_getElem j2)
    rw [hq] at hq'
    cases hq'
    exact eq_ints2 a a' hu1
  rw [range_all] at hr
  exact hr prog w E Q h
end

-- p25_calls
theorem box_ne {C : Addr} {g st pl : Int} {tg ts tp : Tok} {cs : List Value} {ms : List Int} {c : Nat} (hi : IntsAre cs ms) (e : PoolO C g tg st ts pl tp = listOf (List.toArray cs) c) : False := by
  have e2 := congrArg Obj.data e
  injection e2 with e3 _
  have e4 := congrArg Array.toList e3
  have e5 : cs = _ := e4.symm
  rw [e5] at hi
  cases hi
section
variable {w : World} {mean : ExcName → Option Value} {mg mb : Str → Option Value} {A : Around} {s : Shared} {Q E : Value → Shared → Prop} {h₀ : Heap} {L : Addr} {m : Str → Option Value} {news : List (Addr × Obj)}
theorem k_drawn {l : Addr} {vs : List Value} {pat : List Int} {place : Int} {tkp : Tok} (F : Fr h₀ L s.heap m) (X : (hd.heap_39 w.params).In h₀) (T : Top view (looseW view [Str.ofString "PaperError"]) mean mg mb h₀) (N : News h₀ L s.heap news)
    (hl : s.heap.IsList l vs.toArray) (hi : IntsAre vs pat) (hlen : vs.length ≤ 100) (hb : ∀ n ∈ pat, 0 ≤ n ∧ n ≤ 100) (hs : 1 ≤ pat.sum) (hp : 0 ≤ place ∧ place ≤ 1000)
    (hh : A.handled = none) (hdp : A.depth + 3 < recursionLimit) (hun : A.units + 40 < cLine)
    (ret : ∀ h' tk', Fr h₀ L h' m → News h₀ L h' news → Q (.bool (drawnF pat 0 (place.fmod pat.sum))) { s with heap := h', toks := tk' }) :
    wpAny (model PySem.Challenge.rw_nn0117_01.row.prog w) A (call (.ref 246) [.ref l, .int place tkp]) Q E s :=
  c_drawn (X.keeps F.keep) (T.keeps F.keep) hl hi hlen hb hs hp hh hdp hun fun h' tk' k => ret h' tk' (F.keeps k) (N.keepsAll k)
theorem k_lone {l : Addr} {vs : List Value} {pat res : List Int} {phase total : Int} {tkp tkt : Tok} (n : Nat) (F : Fr h₀ L s.heap m) (X : (hd.heap_39 w.params).In h₀) (T : Top view (looseW view [Str.ofString "PaperError"]) mean mg mb h₀) (N : News h₀ L s.heap news)
    (hl : s.heap.IsList l vs.toArray) (hi : IntsAre vs pat) (hlen : vs.length ≤ 100) (hne : 1 ≤ vs.length) (hN : n ≤ 1000) (hr : loneR pat total n (-phase) 0 [] = some res)
    (hh : A.handled = none) (hdp : A.depth + 3 < recursionLimit) (hun : A.units + 40 < cLine)
    (ret : ∀ r items c h' tk', Fr h₀ L h' m → News h₀ L h' ((r, listOf (List.toArray items) c) :: news) → IntsAre items res → Q (.ref r) { s with heap := h', toks := tk' }) :
    wpAny (model PySem.Challenge.rw_nn0117_01.row.prog w) A (call (.ref 253) [.ref l, .int phase tkp, .int total tkt]) Q E s :=
  c_lone (X.keeps F.keep) (T.keeps F.keep) hl hi hlen hne hN hr hh hdp hun fun r items c h' tk' k hn e hi => ret r items c h' tk' (F.keeps k) (news_one F N k e hn) hi
theorem k_box {l : Addr} {vs : List Value} {ns : List Int} (F : Fr h₀ L s.heap m) (X : (hd.heap_39 w.params).In h₀) (T : Top view (looseW view [Str.ofString "PaperError"]) mean mg mb h₀) (N : News h₀ L s.heap news)
    (hl : s.heap.IsList l vs.toArray) (hi : IntsAre vs ns) (hlen : vs.length ≤ 1048576)
    (hh : A.handled = none) (hdp : A.depth + 3 < recursionLimit) (hun : A.units + 40 < cLine)
    (ret : ∀ P C cs ms c g tg st ts tp h' tk', Fr h₀ L h' m → News h₀ L h' ((P, PoolO C g tg st ts 0 tp) :: (C, listOf (List.toArray cs) c) :: news) → @Ne Nat C P → (∀ p ∈ news, @Ne Nat p.1 P) → IntsAre cs ms → cs.length ≤ 1000 → 0 ≤ g → 0 ≤ st ∧ st < 2147483647 → Q (.ref P) { s with heap := h', toks := tk' }) :
    wpAny (model PySem.Challenge.rw_nn0117_01.row.prog w) A (call (.ref 204) [.ref l]) Q E s :=
  c_box (X.keeps F.keep) (T.keeps F.keep) hl hi hlen hh hdp hun fun P C cs ms c g tg st ts tp h' tk' k h1 h2 e1 e2 hi hc hg hst =>
    ret P C cs ms c g tg st ts tp h' tk' (F.keeps k) (news_two F N k e1 e2 h1 h2)
      (fun z => box_ne hi (by
        have z' : C = P := z
        have e3 : h'.get? P = some (listOf (List.toArray cs) c) := z' ▸ e2
        exact Option.some.inj (e1.symm.trans e3)))
      (fun p hp z => by
        have z' : p.1 = P := z
        have := (N p hp).1
        rw [z', h1] at this
        cases this) hi hc hg hst
end
theorem line_p25_1 : True := by
  (k_with "call ref" => (k_here; (with_reducible show wpAny _ _ (call (Value.ref 204) [Value.ref _]) _ _ _); refine Halt.out ?_))
  trivial
theorem line_p25_2 : True := by
  (k_with "call ref" => (k_here; (with_reducible show wpAny _ _ (call (Value.ref 246) _) _ _ _); refine Halt.out ?_))
  trivial
theorem line_p25_3 : True := by
  (k_with "call ref" => (k_here; (with_reducible show wpAny _ _ (call (Value.ref 253) _) _ _ _); refine Halt.out ?_))
  trivial
theorem line_p25_4 : True := by
  (k_with "call ref" => (k_here; (with_reducible show wpAny _ _ (call (Value.ref 260) _) _ _ _); refine Halt.out ?_))
  trivial

-- p26_tail
section
open LCg PySem.Calls PySem.Spec
variable {prog : Program} {w : World} {A : Around} {E : Value → Shared → Prop} {s : Shared} {h₀ : Heap} {L : Addr} {m : Str → Option Value} {env : Env}
/-- range(c), the frame and the ledger kept -/
def RangeGives (h₀ : Heap) (L : Addr) (m : Str → Option Value) (news : List (Addr × Obj)) (c : Int) (s : Shared) (xv : Value) (s₁ : Shared) : Prop :=
  ∃ r t u v h' tk, xv = .ref r ∧ s₁ = { s with heap := h', toks := tk } ∧ IsRange h' r 0 c 1 t u v ∧ Fr h₀ L h' m ∧ News h₀ L h' news
theorem range_size0 {c : Int} (h : 0 ≤ c) : Builtin.Range.rangeSize 0 c 1 = ((c.toNat : Nat) : Int) := by
  simp [Builtin.Range.rangeSize]
  omega
theorem Assign_range {elt iter : PySem.Expr} {x y : Str} {px py : Pos} {scope : Scope} {cl : List (Str × Addr)} {pos spos : Pos} {Q : Flow → Shared → Prop} {news : List (Addr × Obj)} {c : Int} (F₀ : Fr h₀ L s.heap m) (hc : 0 ≤ c ∧ c < 5) (hh : A.handled = none) (hLe : env.locals = L)
    (hsw : swapsWith (.ListComp elt [⟨.Name x px, iter, [], 0⟩] scope pos) (some (.Name y py)) spos.line env = pure true)
    (hclos : closureFor scope env = pure cl) (hcell : ∀ z ∈ scope.names, z.2 ≠ .cell) (hkind : scope.kind = .function)
    (hnames : ∀ z ∈ scope.names, z.2 = .local → scope.names.lookup z.1 = some .local) (hx : scope.names.lookup x = some .local)
    (hy : env.kindOf y = some .local) (hp : (env.scope.kind == .class || (env.scope.kind == .module && env.locals != env.globals)) = false)
    (N₀ : News h₀ L s.heap news) (hs : ∀ x, foldedSetIterable iter env x = pure x)
    (h : wpAny (model prog w) A (eval iter env) (RangeGives h₀ L m news c s) E s)
    (body : ∀ g tk, CompRest prog w A h₀ L m env elt x scope cl { s with heap := g, toks := tk } (fun _ => True) (fun i v => ∃ t, v = .int (0 + (i : Int)) t) (FinA h₀ L m { s with heap := g, toks := tk } y Q) c.toNat 0 [] news) :
    wpAny (model prog w) A (exec (.Assign [.Name y py] (.ListComp elt [⟨.Name x px, iter, [], 0⟩] scope pos) spos) env) Q E s := by
  refine Assign_ListComp_U F₀ hLe hsw hclos hcell hkind hnames hx hy hp (wpAny_mono h (fun xv s₁ h₁ => ?_) fun _ _ z => z) hs
  obtain ⟨r, t, u, v, h', tk, rfl, rfl, hr, F, N⟩ := h₁
  exact CompSrc.range hh F N hr (small_one (by decide) (by decide) (by omega) (by omega)) (range_size0 hc.1) (by rw [sizeLine_eq]; omega) fun g => body g tk
end
theorem line_p26_1 : True := by
  (k_with "call ref" => (k_here; (with_reducible show wpAny _ _ (call (Value.ref 211) _) _ _ _); (have hm9 := (by with_reducible assumption : Halt (7 = 7))); clear hm9; refine Halt.out ?_))
  trivial
/-- between the turns that draw the steps -/
def StepsJ (P C : Addr) (own : List (Addr × Obj)) (i : Nat) (ys : List Value) (nw : List (Addr × Obj)) : Prop :=
  ∃ xs g tg st ts pl tp, IntsAre ys xs ∧ ys.length = i ∧ (∀ x ∈ xs, (0 : Int) ≤ x ∧ x ≤ 19) ∧ 0 ≤ g ∧ (0 ≤ st ∧ st < 2147483647) ∧ (0 ≤ pl ∧ pl ≤ 2 + 2 * (i : Int)) ∧ nw = (P, PoolO C g tg st ts pl tp) :: own
theorem StepsJ.next {P C : Addr} {own : List (Addr × Obj)} {i : Nat} {ys : List Value} {xs : List Int} {x g st pl pl' : Int} {t tg ts tp : Tok} (hi : IntsAre ys xs) (hl : ys.length = i) (hb : ∀ x ∈ xs, (0 : Int) ≤ x ∧ x ≤ 19) (hp : 0 ≤ pl ∧ pl ≤ 2 + 2 * (i : Int)) (hx : 0 ≤ x ∧ x < 20) (hg : 0 ≤ g) (hst : 0 ≤ st ∧ st < 2147483647) (hp' : pl' = pl + 1 ∨ pl' = pl + 1 + 1) :
    StepsJ P C own (i + 1) (ys ++ [.int x t]) ((P, PoolO C g tg st ts pl' tp) :: own) :=
  ⟨xs ++ [x], g, tg, st, ts, pl', tp, IntsAre.append hi (.cons x t .nil), by rw [List.length_append, hl]; rfl, fun y hy => (List.mem_append.mp hy).elim (hb y) fun h => by rw [List.mem_singleton.mp h]; omega, hg, hst, by omega, rfl⟩
/-- the law's statements and its scope -/
def lawParts : List Stmt × Scope := match PySem.Challenge.pw_nn0117_01.main.body.drop 24 with
  | .FunctionDef _ _ b _ _ _ sc _ _ _ :: _ => (b, sc)
  | _ => ([], default)
def lawTail (n : Nat) : List Stmt := lawParts.1.drop n
def lawStmt (n : Nat) : Stmt := match lawTail n with | x :: _ => x | [] => .Pass default
def lawEnv (L a : Addr) (cd : Value) : Env := envOfC (Str.ofString "law") lawParts.2 L a cd

-- p27_bound
section
variable {w : World} {mean : ExcName → Option Value} {mg mb : Str → Option Value} {A : Around} {s : Shared} {K : Flow → Shared → Prop} {E : Value → Shared → Prop} {h₀ : Heap} {L fa : Addr} {cd : Value} {bm : Str → Option Value} {news : List (Addr × Obj)}
set_option maxHeartbeats 4000000 in
/-- if odd == 4 -/
theorem st6 {odd : Int} {t1 : Tok} {vt vp vs : Option Value} {fs : List Env} (X : (hd.heap_39 w.params).In h₀) (T : Top view (looseW view [Str.ofString "PaperError"]) mean mg mb h₀)
    (F : Fr h₀ L s.heap (fun y => if y = Str.ofString "total" then vt else if y = Str.ofString "phase" then vp else if y = Str.ofString "steps" then vs else if y = Str.ofString "odd" then some (.int odd t1) else bm y)) (N : News h₀ L s.heap news)
    (hh : A.handled = none) (hfr : A.frames = some fs) (hFF : h₀.FunFrames h₀ fs) (hdp : A.depth + 60 < recursionLimit) (hun : A.units + 600 < cLine)
    (next : odd ≠ 4 → ∀ h' tk', Fr h₀ L h' (fun y => if y = Str.ofString "total" then vt else if y = Str.ofString "phase" then vp else if y = Str.ofString "steps" then vs else if y = Str.ofString "odd" then some (.int odd t1) else bm y) → News h₀ L h' news → K .next { s with heap := h', toks := tk' })
    (ret : ∀ h' tk' m', Fr h₀ L h' m' → K (.ret (.bool true)) { s with heap := h', toks := tk' }) :
    wpAny (model PySem.Challenge.rw_nn0117_01.row.prog w) (A.deeper (lawEnv L fa cd)) (exec (lawStmt 6) (lawEnv L fa cd)) K E s := by
  (revert X; k_fill; intro X)
  obtain ⟨_, dp, fr, gd, un⟩ := A
  obtain rfl : _ = none := hh
  obtain rfl : _ = some fs := hfr
  unfold lawStmt lawTail lawEnv lawParts PySem.Challenge.pw_nn0117_01
  dsimp only [List.drop]
  try k_fold
  k_steps
  · show Halt (wpAny _ _ (call (.ref 260) []) _ _ _)
    refine Halt.mk (c_isbound (base := h₀) X T rfl rfl (fun b o e => F.keep b o e) (Nat.le_trans F.above (Nat.le_of_lt F.ns.lt)) (ff_cons F (fun b o e => e) hFF _ rfl rfl _ F.keep rfl) (by ktr_room) (by ktr_units) ?_)
    intro hx h' tk' hk1 hk2 hk3
    exact ret _ _ _ ((F.keeps hk2).of_stays hk1 hk3)
  · exact next (by assumption) _ _ F N
end

-- p28_odd
theorem off1_out {D : Addr} : ∀ {l : List (Addr × Obj)}, LCg.Off1 D l → ∀ p ∈ l, @Ne Nat p.1 D
  | [], _, _, h => nomatch h
  | _ :: _, x, p, h => by
    rcases List.mem_cons.mp h with rfl | h
    · exact x.1
    · exact off1_out x.2 p h
theorem if_swap {α : Type} {a b : Str} {u v u2 : α} {r : Str → α} (hab : a ≠ b) : (fun z => if z = a then u else if z = b then v else if z = a then u2 else r z) = fun z => if z = b then v else if z = a then u else r z := by
  funext z
  by_cases h : z = a
  · subst h; rw [if_pos rfl, if_neg hab, if_pos rfl]
  · rw [if_neg h, if_neg h, if_neg h]
theorem if_swap2 {α : Type} {a b c : Str} {u v v2 u2 : α} {r : Str → α} (hab : a ≠ b) (hac : a ≠ c) : (fun z => if z = a then u else if z = b then v else if z = c then v2 else if z = a then u2 else r z) = fun z => if z = b then v else if z = c then v2 else if z = a then u else r z := by
  funext z
  by_cases h : z = a
  · subst h; rw [if_pos rfl, if_neg hab, if_neg hac, if_pos rfl]
  · rw [if_neg h, if_neg h, if_neg h]
section
variable {w : World} {mean : ExcName → Option Value} {mg mb : Str → Option Value} {A : Around} {s : Shared} {K : Flow → Shared → Prop} {E : Value → Shared → Prop} {h₀ : Heap} {L fa : Addr} {cd : Value} {bm : Str → Option Value}
set_option maxHeartbeats 4000000 in
/-- if odd == 1 and count > 0 -/
theorem st7 {odd cnt : Int} {t0 t1 : Tok} {vt vp : Option Value} {D P C : Addr} {ys cs : List Value} {xs ms : List Int} {c0 c : Nat} {g st pl : Int} {tg ts tp : Tok} {oq op : Obj} (X : (hd.heap_39 w.params).In h₀) (T : Top view (looseW view [Str.ofString "PaperError"]) mean mg mb h₀)
    (F : Fr h₀ L s.heap (fun y => if y = Str.ofString "total" then vt else if y = Str.ofString "phase" then vp else if y = Str.ofString "steps" then some (.ref D) else if y = Str.ofString "odd" then some (.int odd t1) else if y = Str.ofString "count" then some (.int cnt t0) else bm y))
    (N : News h₀ L s.heap [(D, listOf ys.toArray c0), (P, PoolO C g tg st ts pl tp), (C, listOf cs.toArray c), (L + 1 + 1, oq), (L + 1, op)]) (hop : op.data = Data.cell (some (.ref P)))
    (hPD : @Ne Nat P D) (hCD : @Ne Nat C D) (d1 : @Ne Nat (L + 1 + 1) D) (d2 : @Ne Nat (L + 1) D) (hCP : @Ne Nat C P) (q1 : @Ne Nat (L + 1 + 1) P) (q2 : @Ne Nat (L + 1) P) (hms : IntsAre cs ms) (hcs : cs.length ≤ 1000) (hg : 0 ≤ g) (hst : 0 ≤ st ∧ st < 2147483647) (hpl : 0 ≤ pl ∧ pl < 900)
    (hxs : IntsAre ys xs) (hxl : (xs.length : Int) = cnt) (hc4 : cnt ≤ 4) (hxb : ∀ x ∈ xs, (-9 : Int) ≤ x ∧ x ≤ 19)
    (hh : A.handled = none) (hdp : A.depth + 60 < recursionLimit) (hun : A.units + 600 < cLine)
    (next : ∀ h' tk' ys' xs' g' tg' st' ts' pl' tp', IntsAre ys' xs' → (xs'.length : Int) = cnt → (∀ x ∈ xs', (-9 : Int) ≤ x ∧ x ≤ 19) → 0 ≤ g' → 0 ≤ st' ∧ st' < 2147483647 → 0 ≤ pl' ∧ pl' < 910 →
      Fr h₀ L h' (fun y => if y = Str.ofString "total" then vt else if y = Str.ofString "phase" then vp else if y = Str.ofString "steps" then some (.ref D) else if y = Str.ofString "odd" then some (.int odd t1) else if y = Str.ofString "count" then some (.int cnt t0) else bm y) →
      News h₀ L h' [(D, listOf (List.toArray ys') c0), (P, PoolO C g' tg' st' ts' pl' tp'), (C, listOf cs.toArray c), (L + 1 + 1, oq), (L + 1, op)] → K .next { s with heap := h', toks := tk' }) :
    wpAny (model PySem.Challenge.rw_nn0117_01.row.prog w) (A.deeper (lawEnv L fa cd)) (exec (lawStmt 7) (lawEnv L fa cd)) K E s := by
  (revert X; k_fill; intro X)
  obtain ⟨_, dp, fr, gd, un⟩ := A
  obtain rfl : _ = none := hh
  unfold lawStmt lawTail lawEnv lawParts PySem.Challenge.pw_nn0117_01
  dsimp only [List.drop]
  try k_fold
  k_steps
  · rename IntsAre (List.set _ _ _) _ => hi9
    rename (List.set _ _ _).length = _ => hl9
    rename Fr _ _ _ _ => F9
    rename News _ _ _ _ => N9
    exact next _ _ _ _ _ _ _ _ _ _ hi9 (by omega) (fun x hx => (List.mem_or_eq_of_mem_set hx).elim (hxb x) fun e => by omega) (by assumption) (by assumption) (by omega) F9 N9
  · exact next _ _ _ _ _ _ _ _ _ _ hxs hxl hxb hg hst (by omega) F N
  · exact next _ _ _ _ _ _ _ _ _ _ hxs hxl hxb hg hst (by omega) F N
set_option maxHeartbeats 4000000 in
/-- if odd == 2 -/
theorem st8 {odd ph : Int} {t1 t2 : Tok} {vt vs : Option Value} {news : List (Addr × Obj)} (X : (hd.heap_39 w.params).In h₀) (T : Top view (looseW view [Str.ofString "PaperError"]) mean mg mb h₀)
    (F : Fr h₀ L s.heap (fun y => if y = Str.ofString "total" then vt else if y = Str.ofString "phase" then some (.int ph t2) else if y = Str.ofString "steps" then vs else if y = Str.ofString "odd" then some (.int odd t1) else bm y))
    (N : News h₀ L s.heap news) (hb : 0 ≤ ph ∧ ph < 30)
    (hh : A.handled = none) (hdp : A.depth + 60 < recursionLimit) (hun : A.units + 600 < cLine)
    (next : ∀ h' tk' ph' t2', -30 ≤ ph' ∧ ph' < 30 →
      Fr h₀ L h' (fun y => if y = Str.ofString "total" then vt else if y = Str.ofString "phase" then some (.int ph' t2') else if y = Str.ofString "steps" then vs else if y = Str.ofString "odd" then some (.int odd t1) else bm y) →
      News h₀ L h' news → K .next { s with heap := h', toks := tk' }) :
    wpAny (model PySem.Challenge.rw_nn0117_01.row.prog w) (A.deeper (lawEnv L fa cd)) (exec (lawStmt 8) (lawEnv L fa cd)) K E s := by
  (revert X; k_fill; intro X)
  obtain ⟨_, dp, fr, gd, un⟩ := A
  obtain rfl : _ = none := hh
  unfold lawStmt lawTail lawEnv lawParts PySem.Challenge.pw_nn0117_01
  dsimp only [List.drop]
  try k_fold
  k_steps
  · rename Fr _ _ _ _ => F9
    rename News _ _ _ _ => N9
    rw [if_swap (by decide)] at F9
    exact next _ _ _ _ (by omega) F9 N9
  · exact next _ _ _ _ (by omega) F N
set_option maxHeartbeats 4000000 in
/-- if odd == 3 -/
theorem st9 {odd : Int} {t1 : Tok} {vt vp : Option Value} {D : Addr} {ys : List Value} {xs : List Int} {c0 : Nat} {news : List (Addr × Obj)} (X : (hd.heap_39 w.params).In h₀) (T : Top view (looseW view [Str.ofString "PaperError"]) mean mg mb h₀)
    (F : Fr h₀ L s.heap (fun y => if y = Str.ofString "total" then vt else if y = Str.ofString "phase" then vp else if y = Str.ofString "steps" then some (.ref D) else if y = Str.ofString "odd" then some (.int odd t1) else bm y))
    (N : News h₀ L s.heap ((D, listOf ys.toArray c0) :: news)) (hxs : IntsAre ys xs) (hxl : xs.length ≤ 4) (hxb : ∀ x ∈ xs, (-9 : Int) ≤ x ∧ x ≤ 19) (hne : ∀ p ∈ news, @Ne Nat p.1 D)
    (hh : A.handled = none) (hdp : A.depth + 60 < recursionLimit) (hun : A.units + 600 < cLine)
    (next : ∀ h' tk' D' ys' xs' c0', IntsAre ys' xs' → xs'.length = xs.length → (∀ x ∈ xs', (-9 : Int) ≤ x ∧ x ≤ 19) → (∀ p ∈ news, @Ne Nat p.1 D') →
      Fr h₀ L h' (fun y => if y = Str.ofString "total" then vt else if y = Str.ofString "phase" then vp else if y = Str.ofString "steps" then some (.ref D') else if y = Str.ofString "odd" then some (.int odd t1) else bm y) →
      News h₀ L h' ((D', listOf (List.toArray ys') c0') :: news) → K .next { s with heap := h', toks := tk' }) :
    wpAny (model PySem.Challenge.rw_nn0117_01.row.prog w) (A.deeper (lawEnv L fa cd)) (exec (lawStmt 9) (lawEnv L fa cd)) K E s := by
  (revert X; k_fill; intro X)
  obtain ⟨_, dp, fr, gd, un⟩ := A
  obtain rfl : _ = none := hh
  unfold lawStmt lawTail lawEnv lawParts PySem.Challenge.pw_nn0117_01
  dsimp only [List.drop]
  have mk2 : Halt (2 = 2) := rfl
  try k_fold
  k_steps
  · refine Halt.mk (LCg.Assign_ListComp_U (F₀ := by k_asm) (by rfl) (by with_unfolding_all rfl) (by rfl) (by decide) (by rfl) (by decide) (by rfl) (by rfl) (by rfl) ?_)
    k_steps
    refine comp_src (its := ys.toArray) (nB := (D, listOf ys.toArray c0) :: news) (by rfl) F N (.inr ⟨_, .head _, rfl, _, rfl⟩) (fun _ h => h) (by rw [List.size_toArray, hxs.length, sizeLine_eq]; omega) fun gg => compRest_ind (fun i ys' nw => ys'.length = i ∧ IntsAre ys' (List.replicate i 0) ∧ nw = (D, listOf ys.toArray c0) :: news) ?_ ?_ _ 0 [] _ (Nat.zero_add _) ⟨rfl, .nil, rfl⟩
    · rintro zs nw ⟨hz, hzs, rfl⟩
      intro D2 h2 tk2 F2 N2 o2
      have nn : ∀ p ∈ news, @Ne Nat p.1 D2 := fun p hp => off1_out o2 p (.tail _ hp)
      have ez : ∀ x ∈ List.replicate ys.toArray.size (0 : Int), -9 ≤ x ∧ x ≤ 19 := fun x hx => by rw [(List.mem_replicate.mp hx).2]; decide
      have el : (List.replicate ys.toArray.size (0 : Int)).length = xs.length := by rw [List.length_replicate, List.size_toArray, hxs.length]
      have N3 : News h₀ L h2 ((D2, listOf zs.toArray zs.length) :: news) := fun p hp => N2 p (by
        rcases List.mem_cons.mp hp with rfl | hp
        · exact .head _
        · exact .tail _ (.tail _ hp))
      have F3 : Fr h₀ L h2 (fun z => if z = Str.ofString "steps" then some (.ref D2) else if z = Str.ofString "total" then vt else if z = Str.ofString "phase" then vp else if z = Str.ofString "steps" then some (.ref D) else if z = Str.ofString "odd" then some (.int odd t1) else bm z) := F2
      rw [if_swap2 (by decide) (by decide)] at F3
      clear F2 N2 o2
      k_steps
      exact next _ _ _ _ _ _ (by assumption) el ez nn F3 N3
    · rintro i zs nw hi ⟨hz, hzs, rfl⟩ v I oI C oC D2 m₂ h2 tk2 E' hv hC hx F2 N2 off ne
      k_steps
      refine LCg.CompEnd.intro F2 N2 _ (fun p hp => hp) off (.inr ⟨_, .head _, rfl, _, rfl⟩) ⟨by rw [List.length_append, hz]; rfl, ?_, rfl⟩
      rw [List.replicate_succ']
      exact hzs.append (.cons _ _ .nil)
  · exact next _ _ _ _ _ _ hxs rfl hxb hne F N
end

-- p29_bad
theorem bad_min {xs : List Int} {ph m : Int} (hm : m ∈ xs) (h : m < 0) : (decide (m < 0) = true ↔ BadS xs ph) :=
  ⟨fun _ => ⟨List.ne_nil_of_mem hm, .inl ⟨m, hm, h⟩⟩, fun _ => decide_eq_true h⟩
theorem bad_max {xs : List Int} {ph M : Int} (hmax : ∀ a, a ∈ xs → a ≤ M) (hM : M ∈ xs) (h : M = 0) : ((M == 0) = true ↔ BadS xs ph) :=
  ⟨fun _ => ⟨List.ne_nil_of_mem hM, .inr (.inl fun a ha => h ▸ hmax a ha)⟩, fun _ => beq_iff_eq.mpr h⟩
theorem bad_ph {xs : List Int} {ph m M : Int} (hmin : ∀ a, a ∈ xs → m ≤ a) (hn : ¬ m < 0) (hmax : ∀ a, a ∈ xs → a ≤ M) (hM : M ∈ xs) (hz : M ≠ 0) : (decide (ph < 0) = true ↔ BadS xs ph) := by
  rw [decide_eq_true_iff]
  refine ⟨fun h => ⟨List.ne_nil_of_mem hM, .inr (.inr h)⟩, fun h => ?_⟩
  rcases h.2 with ⟨x, hx, h1⟩ | h1 | h1
  · have := hmin x hx; omega
  · have := h1 M hM; have := hmin M hM; omega
  · exact h1
theorem bad_nil {xs : List Int} {ph cnt : Int} (hl : (xs.length : Int) = cnt) (h : ¬ 0 < cnt) : (decide (0 < cnt) = true ↔ BadS xs ph) := by
  rw [decide_eq_true_iff]
  exact ⟨fun z => absurd z h, fun z => absurd (List.length_eq_zero_iff.mp (by omega)) z.1⟩
section
variable {w : World} {mean : ExcName → Option Value} {mg mb : Str → Option Value} {A : Around} {s : Shared} {K : Flow → Shared → Prop} {E : Value → Shared → Prop} {h₀ : Heap} {L fa : Addr} {cd : Value} {bm : Str → Option Value} {news : List (Addr × Obj)}
set_option maxHeartbeats 4000000 in
/-- is_bad = .. -/
theorem st10 {odd cnt ph : Int} {t0 t1 t2 : Tok} {vt : Option Value} {D : Addr} {ys : List Value} {xs : List Int} {c0 : Nat} (X : (hd.heap_39 w.params).In h₀) (T : Top view (looseW view [Str.ofString "PaperError"]) mean mg mb h₀)
    (F : Fr h₀ L s.heap (fun y => if y = Str.ofString "total" then vt else if y = Str.ofString "phase" then some (.int ph t2) else if y = Str.ofString "steps" then some (.ref D) else if y = Str.ofString "odd" then some (.int odd t1) else if y = Str.ofString "count" then some (.int cnt t0) else bm y))
    (N : News h₀ L s.heap ((D, listOf ys.toArray c0) :: news)) (hxs : IntsAre ys xs) (hxl : (xs.length : Int) = cnt) (hc4 : cnt ≤ 4)
    (hh : A.handled = none) (hdp : A.depth + 60 < recursionLimit) (hun : A.units + 600 < cLine)
    (next : ∀ h' tk' b, (b = true ↔ BadS xs ph) →
      Fr h₀ L h' (fun y => if y = Str.ofString "is_bad" then some (.bool b) else if y = Str.ofString "total" then vt else if y = Str.ofString "phase" then some (.int ph t2) else if y = Str.ofString "steps" then some (.ref D) else if y = Str.ofString "odd" then some (.int odd t1) else if y = Str.ofString "count" then some (.int cnt t0) else bm y) →
      News h₀ L h' ((D, listOf ys.toArray c0) :: news) → K .next { s with heap := h', toks := tk' }) :
    wpAny (model PySem.Challenge.rw_nn0117_01.row.prog w) (A.deeper (lawEnv L fa cd)) (exec (lawStmt 10) (lawEnv L fa cd)) K E s := by
  (revert X; k_fill; intro X)
  obtain ⟨_, dp, fr, gd, un⟩ := A
  obtain rfl : _ = none := hh
  unfold lawStmt lawTail lawEnv lawParts PySem.Challenge.pw_nn0117_01
  dsimp only [List.drop]
  try k_fold
  k_steps
  all_goals
    rename Fr _ _ _ _ => F9
    rename News _ _ _ _ => N9
  · exact next _ _ _ (bad_min (by assumption) (by assumption)) F9 N9
  · exact next _ _ _ (bad_max (by assumption) (by assumption) (by assumption)) F9 N9
  · exact next _ _ _ (bad_ph (by assumption) (by assumption) (by assumption) (by assumption) (by assumption)) F9 N9
  · exact next _ _ _ (bad_nil hxl (by assumption)) F9 N9
end

-- p30_try
theorem line_p30_1 : True := by
  (k_with "eval ListComp" => ((have hm9 := (by with_reducible assumption : Halt (8 = 8))); clear hm9; refine Halt.out ?_))
  trivial
theorem fresh_ne {h : Heap} {P : Addr} {o : Obj} {ext : List (Addr × Obj)} (e : h.get? P = some o) (hx : ∀ p ∈ ext, h.get? p.1 = none) : ∀ p ∈ ext, @Ne Nat p.1 P := fun p hp z => by
  have z' : p.1 = P := z
  rw [← z', hx p hp] at e
  cases e
section
open LCg
theorem compEnd_ext2 {s₁ : Shared} {h₀ h2 h' : Heap} {L I C D : Addr} {m : Str → Option Value} {oI oC oD : Obj} {S : List (Addr × Obj) → Prop} {r : Value → List (Addr × Obj) → Prop} {y : Value} {tk : Nat} {all news2 : List (Addr × Obj)}
    (F : Fr h₀ L h' m) (N : News h₀ L h' ((I, oI) :: (C, oC) :: (D, oD) :: all)) (old : ∀ q ∈ (I, oI) :: (C, oC) :: (D, oD) :: news2, h2.get? q.1 = some q.2) (ho : ∀ p ∈ all, (p.1 ≠ I ∧ p.1 ≠ C ∧ p.1 ≠ D) ∨ h2.get? p.1 = none) (hS : S all) (hr : r y all) :
    CompEnd h₀ L m s₁ I oI C oC D oD S r y { s₁ with heap := h', toks := tk } := by
  refine CompEnd.intro F N all (fun p hp => hp) (Off3.of fun p hp => ?_) hS hr
  rcases ho p hp with h | h
  · exact h
  · have ne : ∀ q ∈ (I, oI) :: (C, oC) :: (D, oD) :: news2, p.1 ≠ q.1 := fun q hq e => by
      rw [e, old q hq] at h
      cases h
    exact ⟨ne _ (.head _), ne _ (.tail _ (.head _)), ne _ (.tail _ (.tail _ (.head _)))⟩
end
def RefGives (D : Addr) (s : Shared) (xv : Value) (s₁ : Shared) : Prop := xv = .ref D ∧ s₁ = s
theorem eval_ref {prog : Program} {w : World} {A : Around} {E : Value → Shared → Prop} {s : Shared} {t : Sem Value} {D : Addr} {Q : Value → Shared → Prop} (h : wpAny (model prog w) A t (RefGives D s) E s) (hq : Q (.ref D) s) : wpAny (model prog w) A t Q E s :=
  wpAny_mono h (fun _ _ ⟨a, b⟩ => by subst a b; exact hq) fun _ _ z => z
/-- between the turns that give the steps -/
def GivenJ (w : World) (h₀ : Heap) (P C : Addr) (own : List (Addr × Obj)) (V : Value) (tot : Int) (xs : List Int) (i : Nat) (zs : List Value) (nw : List (Addr × Obj)) : Prop :=
  ∃ g tg st ts pl tp ext, nw = (P, PoolO C g tg st ts pl tp) :: (own ++ ext) ∧ All2 (IVs w h₀ ext) zs (xs.take i) ∧ IVs w h₀ ext V tot ∧ (∀ p ∈ ext, @Ne Nat p.1 P) ∧ 0 ≤ g ∧ (0 ≤ st ∧ st < 2147483647) ∧ (0 ≤ pl ∧ pl ≤ 951 + (i : Int))
theorem GivenJ.next {w : World} {h₀ : Heap} {P C : Addr} {own ext ext2 : List (Addr × Obj)} {V V2 : Value} {tot x : Int} {xs : List Int} {i : Nat} {zs : List Value} {g st pl pl2 : Int} {tg ts tp : Tok} (hz : All2 (IVs w h₀ ext) zs (xs.take i)) (hV : IVs w h₀ ext V tot) (hx : xs[i]? = some x) (hV2 : IVs w h₀ ext2 V2 x)
    (h1 : ∀ p ∈ ext, @Ne Nat p.1 P) (h2 : ∀ p ∈ ext2, @Ne Nat p.1 P) (hg : 0 ≤ g) (hst : 0 ≤ st ∧ st < 2147483647) (hp : 0 ≤ pl ∧ pl ≤ 951 + (i : Int)) (hp2 : pl ≤ pl2 ∧ pl2 ≤ pl + 1) :
    GivenJ w h₀ P C own V tot xs (i + 1) (zs ++ [V2]) ((P, PoolO C g tg st ts pl2 tp) :: (own ++ (ext ++ ext2))) := by
  refine ⟨g, tg, st, ts, pl2, tp, ext ++ ext2, rfl, ?_, hV.mono fun p hp => List.mem_append.mpr (.inl hp), fun p hp => (List.mem_append.mp hp).elim (h1 p) (h2 p), hg, hst, by omega⟩
  rw [List.take_add_one, hx]
  exact All2.snoc (hV2.mono fun p hp => List.mem_append.mpr (.inr hp)) (hz.imp fun _ _ z => z.mono fun p hp => List.mem_append.mpr (.inl hp))
theorem good_facts {xs : List Int} {ph : Int} (h : ¬ BadS xs ph) (hne : xs ≠ []) : (∀ x ∈ xs, 0 ≤ x) ∧ 1 ≤ xs.sum ∧ 0 ≤ ph := by
  have h1 : ∀ x ∈ xs, 0 ≤ x := fun x hx => Int.not_lt.mp fun z => h ⟨hne, .inl ⟨x, hx, z⟩⟩
  refine ⟨h1, ?_, Int.not_lt.mp fun z => h ⟨hne, .inr (.inr z)⟩⟩
  have h2 : ¬ ∀ x ∈ xs, x ≤ 0 := fun z => h ⟨hne, .inr (.inl z)⟩
  clear h hne
  induction xs with
  | nil => exact absurd (fun _ hx => nomatch hx) h2
  | cons a r ih =>
    rw [List.sum_cons]
    have ha := h1 a (.head _)
    have hr : 0 ≤ r.sum := by
      clear ih h2
      have h3 : ∀ y ∈ r, 0 ≤ y := fun y hy => h1 y (.tail _ hy)
      clear h1
      induction r with
      | nil => exact Int.le_refl _
      | cons y l il => rw [List.sum_cons]; have := il fun z hz => h3 z (.tail _ hz); have := h3 y (.head _); omega
    by_cases h3 : ∀ x ∈ r, x ≤ 0
    · by_cases h4 : a ≤ 0
      · exact absurd (fun x hx => (List.mem_cons.mp hx).elim (fun e => e ▸ h4) (h3 x)) h2
      · omega
    · have := ih (fun x hx => h1 x (.tail _ hx)) h3
      omega
theorem raise_bad {xs : List Int} {ph tot : Int} (hn : xs.length ≤ 4) (hph : ph < 30) (htot : tot < 60) (h : BadS xs ph ∨ (0 < tot ∧ xs ≠ [] ∧ runS xs tot 401 (-ph) 0 [] = none)) : BadS xs ph := by
  rcases h with h | ⟨h1, h2, h3⟩
  · exact h
  · refine Classical.byContradiction fun hb => ?_
    obtain ⟨g1, g2, g3⟩ := good_facts hb h2
    obtain ⟨sp, e, _⟩ := plain hn g1 g2 ⟨g3, by omega⟩ ⟨h1, by omega⟩
    rw [h3] at e
    cases e
section
variable {w : World} {mean : ExcName → Option Value} {mg mb : Str → Option Value} {A : Around} {s : Shared} {K : Flow → Shared → Prop} {E : Value → Shared → Prop} {h₀ : Heap} {L fa : Addr} {cd : Value} {bm : Str → Option Value}
set_option maxHeartbeats 4000000 in
/-- try: spans = dash_spans(..) except PaintFault: return is_bad -/
theorem st11 {b : Bool} {tot ph : Int} {t2 t3 : Tok} {D P C : Addr} {ys cs : List Value} {xs ms : List Int} {c0 c : Nat} {g st pl : Int} {tg ts tp : Tok} {oq op : Obj} {fs : List Env} (X : (hd.heap_39 w.params).In h₀) (T : Top view (looseW view [Str.ofString "PaperError"]) mean mg mb h₀)
    (F : Fr h₀ L s.heap (fun y => if y = Str.ofString "is_bad" then some (.bool b) else if y = Str.ofString "total" then some (.int tot t3) else if y = Str.ofString "phase" then some (.int ph t2) else if y = Str.ofString "steps" then some (.ref D) else bm y)) (hbm : bm (Str.ofString "top") = none)
    (N : News h₀ L s.heap [(D, listOf ys.toArray c0), (P, PoolO C g tg st ts pl tp), (C, listOf cs.toArray c), (L + 1 + 1, oq), (L + 1, op)]) (hop : op.data = Data.cell (some (.ref P)))
    (hPD : @Ne Nat P D) (hCP : @Ne Nat C P) (q1 : @Ne Nat (L + 1 + 1) P) (q2 : @Ne Nat (L + 1) P) (hms : IntsAre cs ms) (hcs : cs.length ≤ 1000) (hg : 0 ≤ g) (hst : 0 ≤ st ∧ st < 2147483647) (hpl : 0 ≤ pl ∧ pl < 950)
    (hxs : IntsAre ys xs) (hxl : xs.length ≤ 4) (hxb : ∀ x ∈ xs, (-9 : Int) ≤ x ∧ x ≤ 19) (hph : -30 ≤ ph ∧ ph < 30) (htot : 0 ≤ tot ∧ tot < 60) (hbad : b = true ↔ BadS xs ph)
    (hh : A.handled = none) (hfr : A.frames = some fs) (hFF : h₀.FunFrames h₀ fs) (hdp : A.depth + 60 < recursionLimit) (hun : A.units + 600 < cLine)
    (next : ∀ sp r items c' h' tk' rest, ¬ BadS xs ph → ((tot ≤ 0 ∧ sp = []) ∨ (0 < tot ∧ xs = [] ∧ sp = [(0, tot)]) ∨ (0 < tot ∧ xs ≠ [] ∧ runS xs tot 401 (-ph) 0 [] = some sp)) →
      Fr h₀ L h' (fun y => if y = Str.ofString "spans" then some (.ref r) else if y = Str.ofString "is_bad" then some (.bool b) else if y = Str.ofString "total" then some (.int tot t3) else if y = Str.ofString "phase" then some (.int ph t2) else if y = Str.ofString "steps" then some (.ref D) else bm y) →
      News h₀ L h' ((r, listOf (List.toArray items) c') :: rest) → (D, listOf ys.toArray c0) ∈ rest → (L + 1 + 1, oq) ∈ rest → (∀ p ∈ rest, @Ne Nat p.1 r) → All2 (SpanS w h₀ rest) items sp → K .next { s with heap := h', toks := tk' })
    (ret : ∀ h' tk' m', Fr h₀ L h' m' → K (.ret (.bool true)) { s with heap := h', toks := tk' }) :
    wpAny (model PySem.Challenge.rw_nn0117_01.row.prog w) (A.deeper (lawEnv L fa cd)) (exec (lawStmt 11) (lawEnv L fa cd)) K E s := by
  (revert X; k_fill; intro X)
  obtain ⟨_, dp, fr, gd, un⟩ := A
  obtain rfl : _ = none := hh
  obtain rfl : _ = some fs := hfr
  unfold lawStmt lawTail lawEnv lawParts PySem.Challenge.pw_nn0117_01
  dsimp only [List.drop]
  have mk8 : Halt (8 = 8) := rfl
  have hP0 := (N _ (.tail _ (.head _))).1
  dsimp only at hP0
  try k_fold
  refine wpAny_Try_except ?_
  k_steps
  have hxP := fresh_ne hP0 hx'
  have N1 : News h₀ L h' ((P, PoolO C g' tg' st' ts' pl' tp') :: ([(D, listOf ys.toArray c0), (C, listOf cs.toArray c), (L + 1 + 1, oq), (L + 1, op)] ++ ext')) := fun p hp => N' p (by
    rcases List.mem_cons.mp hp with rfl | hp
    · exact .tail _ (.head _)
    · rcases List.mem_cons.mp hp with rfl | hp
      · exact .head _
      · exact .tail _ (.tail _ hp))
  have hpl2 : 0 ≤ pl' ∧ pl' ≤ 951 + ((0 : Nat) : Int) := by omega
  refine Halt.mk (LCg.ListComp_U (F₀ := F') (by with_unfolding_all rfl) (by decide) (by rfl) (by decide) (by rfl) ?_)
  refine eval_ref (D := D) ?_ ?_
  · k_steps
    exact ⟨rfl, rfl⟩
  refine comp_src (by rfl) F' N1 (.inr ⟨_, .tail _ (.head _), rfl, _, rfl⟩) (fun _ h => h) (by rw [List.size_toArray, hxs.length, sizeLine_eq]; omega) fun gg => compRest_ind (GivenJ w h₀ P C [(D, listOf ys.toArray c0), (C, listOf cs.toArray c), (L + 1 + 1, oq), (L + 1, op)] V' tot xs) ?_ ?_ _ 0 [] _ (Nat.zero_add _) ⟨_, _, _, _, _, _, ext', rfl, .nil, hV', hxP, hg', hst', hpl2⟩
  · rintro zs nw ⟨g9, tg9, st9, ts9, pl9, tp9, ext9, rfl, hzs, hV9, hxP9, hg9, hst9, hpl9⟩
    intro D2 h2 tk2 F2 N2 o2
    have o3 := off1_out o2
    have n3 : @Ne Nat P D2 := o3 _ (.head _)
    have hpl8 : 0 ≤ pl9 ∧ pl9 < 970 := by
      rw [List.size_toArray, hxs.length] at hpl9
      omega
    rw [List.size_toArray, hxs.length, List.take_length] at hzs
    simp only [List.cons_append, List.nil_append] at N2
    clear F' N' N1 o2 hpl9
    have hP1 := (N2 _ (.tail _ (.head _))).1
    dsimp only at hP1
    k_steps
    rename IVs w h₀ _ _ ph => hV3
    have sub9 : ∀ p ∈ ext9, p ∈ (D2, LCg.lst zs) :: (P, PoolO C g' tg' st' ts' pl' tp') :: (D, listOf ys.toArray c0) :: (C, listOf cs.toArray c) :: (L + 1 + 1, oq) :: (L + 1, op) :: (ext9 ++ ext') := fun p hp => .tail _ (.tail _ (.tail _ (.tail _ (.tail _ (.tail _ (List.mem_append.mpr (.inl hp)))))))
    have sub3 : ∀ p ∈ ext', p ∈ (D2, LCg.lst zs) :: (P, PoolO C g' tg' st' ts' pl' tp') :: (D, listOf ys.toArray c0) :: (C, listOf cs.toArray c) :: (L + 1 + 1, oq) :: (L + 1, op) :: (ext9 ++ ext') := fun p hp => .tail _ (.tail _ (.tail _ (.tail _ (.tail _ (.tail _ (List.mem_append.mpr (.inr hp)))))))
    refine Halt.mk (k_spans (S := xs) (Tn := tot) (Pn := ph) (vs := zs) (base := h₀) F' X T N' hbm (hV9.mono sub9) (.inr ⟨_, .head _, rfl, _, rfl⟩) (hzs.imp fun _ _ z => z.mono sub9) (by omega) (hV3.mono sub3) rfl rfl (fun b o e => e) (ff_cons F' (fun b o e => e) hFF _ rfl rfl) (by ktr_room) (by ktr_units) ?_ ?_)
    · intro sp r items c' h3 tk3 rest nb hc F3 N3 hs3 hne3 hsp
      clear F' N' hzs hV9 hV3 sub9 sub3
      k_steps
      rename Fr _ _ _ _ => F5
      rename News _ _ _ _ => N5
      exact next _ _ _ _ _ _ _ nb hc F5 N5 (hs3 _ (.tail _ (.tail _ (.head _)))) (hs3 _ (.tail _ (.tail _ (.tail _ (.tail _ (.head _)))))) hne3 hsp
    · intro e a0 h3 tk3 hx hc hf hF hu
      have hb : b = true := hbad.mpr (raise_bad hxl hph.2 htot.2 hc)
      clear F' N' hzs hV9 hV3 sub9 sub3 hc
      refine caught_paint rfl rfl hf hF hu (X 59 _ (by k_is)) (by decide +kernel) ?_ ?_
      · intro A' s₁ E' Q' F5 hQ
        clear hF hu hf
        k_steps
        exact hQ
      · intro h9 F9 hu9
        clear hF hu hf
        k_steps
        show K (.ret (.bool b)) _
        rw [hb]
        exact ret _ _ _ F9
  · rintro i zs nw hi ⟨g9, tg9, st9, ts9, pl9, tp9, ext9, rfl, hzs, hV9, hxP9, hg9, hst9, hpl9⟩ v I oI C9 oC D2 m₂ h2 tk2 E' hv hC hx F2 N2 off ne
    obtain ⟨x, tx, rfl, hxi⟩ := hxs.at i _ (by simpa using hv)
    obtain ⟨hx1, hx2⟩ := hxb x (List.mem_of_getElem? hxi)
    have o3 := off.mem
    obtain ⟨n1, n2, n3⟩ := o3 _ (.head _)
    replace n1 : @Ne Nat P I := n1
    replace n2 : @Ne Nat P C9 := n2
    replace n3 : @Ne Nat P D2 := n3
    have hpl8 : 0 ≤ pl9 ∧ pl9 < 970 := by
      rw [List.size_toArray, hxs.length] at hi
      omega
    simp only [List.cons_append, List.nil_append] at N2
    clear F' N' N1 mk8
    have old := fun q hq => (N2 q hq).1
    k_steps
    refine compEnd_ext2 F' N' old (fun p hp => ?_) (.inr ⟨_, .tail _ (.head _), rfl, _, rfl⟩) (GivenJ.next (own := [(D, listOf ys.toArray c0), (C, listOf cs.toArray c), (L + 1 + 1, oq), (L + 1, op)]) hzs hV9 hxi hV' hxP9 (fresh_ne (old _ (.tail _ (.tail _ (.tail _ (.head _))))) hx') hg' hst' hpl9 hpl')
    have hp' : p ∈ (P, PoolO C g' tg' st' ts' pl' tp') :: ([(D, listOf ys.toArray c0), (C, listOf cs.toArray c), (L + 1 + 1, oq), (L + 1, op)] ++ (ext9 ++ ext')) := hp
    rcases List.mem_cons.mp hp' with rfl | hp
    · exact .inl (o3 (P, PoolO C g9 tg9 st9 ts9 pl9 tp9) (.head _))
    · rcases List.mem_append.mp hp with hp | hp
      · exact .inl (o3 p (.tail _ (List.mem_append.mpr (.inl hp))))
      · rcases List.mem_append.mp hp with hp | hp
        · exact .inl (o3 p (.tail _ (List.mem_append.mpr (.inr hp))))
        · exact .inr (hx' p hp)
end

-- p31_ends
section
open LCg LCp
variable {prog : Program} {w : World} {A : Around} {E : Value → Shared → Prop} {s : Shared} {h₀ : Heap} {L : Addr} {m : Str → Option Value} {env : Env}
/-- a comprehension over pairs by an invariant over what is built and the ledger -/
theorem compRestP_ind {elt : PySem.Expr} {x x₂ : Str} {scope : Scope} {cl : List (Str × Addr)} {S : List (Addr × Obj) → Prop} {P : Nat → Value → Prop} {Fin : List Value → List (Addr × Obj) → Prop} {n : Nat} (J : Nat → List Value → List (Addr × Obj) → Prop)
    (hfin : ∀ ys nw, J n ys nw → Fin ys nw)
    (turn : ∀ i ys nw v, i < n → J i ys nw → P i v → ∃ (t : Addr) (ot : Obj) (v₁ v₂ : Value) (nt : Nat), v = .ref t ∧ (t, ot) ∈ nw ∧ ot.cls = .type "tuple" ∧ ot.data = .seq #[v₁, v₂] nt ∧
      ∀ I oI C oC D m₂ h tk (E' : Value → Shared → Prop), NsObj oC m₂ → m₂ x = some v₁ → m₂ x₂ = some v₂ → Fr h₀ L h m → News h₀ L h ((I, oI) :: (C, oC) :: (D, lst ys) :: nw) → Off3 I C D nw → ((@Ne Nat I C) ∧ (@Ne Nat I D) ∧ (@Ne Nat C D)) →
      wpAny (model prog w) A (eval elt (compEnvC scope cl C env)) (CompEnd h₀ L m { s with heap := h, toks := tk } I oI C oC D (lst ys) S (fun y nw' => J (i + 1) (ys ++ [y]) nw')) E' { s with heap := h, toks := tk }) :
    ∀ k i ys nw, i + k = n → J i ys nw → CompRestP prog w A h₀ L m env elt x x₂ scope cl s S P Fin k i ys nw
  | 0, i, ys, nw, e, hJ => CompRestP.zero (hfin _ _ (by rwa [show i = n from e] at hJ))
  | k + 1, i, ys, nw, e, hJ => CompRestP.succ fun v hv => by
      obtain ⟨t, ot, v₁, v₂, nt, ev, hm, hc, hd, body⟩ := turn i ys nw v (by omega) hJ hv
      exact ⟨t, ot, v₁, v₂, nt, ev, hm, hc, hd, fun I oI C oC D m₂ h tk E' hC hx hx2 F N off ne =>
        wpAny_mono (body I oI C oC D m₂ h tk E' hC hx hx2 F N off ne) (fun _ _ c => CompEnd.imp (fun y nw' hJ' => compRestP_ind J hfin turn k (i + 1) (ys ++ [y]) nw' (by omega) hJ') c) fun _ _ z => z⟩
end
theorem mem_push {α : Type} {a b c d : α} {l : List α} : ∀ p ∈ b :: c :: d :: a :: l, p ∈ a :: b :: c :: d :: l := fun p hp => by
  rcases List.mem_cons.mp hp with rfl | hp
  · exact .tail _ (.head _)
  · rcases List.mem_cons.mp hp with rfl | hp
    · exact .tail _ (.tail _ (.head _))
    · rcases List.mem_cons.mp hp with rfl | hp
      · exact .tail _ (.tail _ (.tail _ (.head _)))
      · rcases List.mem_cons.mp hp with rfl | hp
        · exact .head _
        · exact .tail _ (.tail _ (.tail _ (.tail _ hp)))
theorem compEnd_push {s₁ : Shared} {h₀ h' : Heap} {L I C D T : Addr} {m : Str → Option Value} {oI oC oD oT : Obj} {S : List (Addr × Obj) → Prop} {r : Value → List (Addr × Obj) → Prop} {y : Value} {tk : Nat} {nw : List (Addr × Obj)} {X : Prop}
    (F : Fr h₀ L h' m) (N : News h₀ L h' ((T, oT) :: (I, oI) :: (C, oC) :: (D, oD) :: nw)) (l : I < T ∧ C < T ∧ D < T ∧ X) (off : LCg.Off3 I C D nw) (hS : S ((T, oT) :: nw)) (hr : r y ((T, oT) :: nw)) :
    LCg.CompEnd h₀ L m s₁ I oI C oC D oD S r y { s₁ with heap := h', toks := tk } :=
  LCg.CompEnd.intro F N ((T, oT) :: nw) mem_push ⟨⟨Nat.ne_of_gt l.1, Nat.ne_of_gt l.2.1, Nat.ne_of_gt l.2.2.1⟩, off⟩ hS hr
/-- a tuple of two ints in the ledger -/
def IntsT (nw : List (Addr × Obj)) (v : Value) (q : Int × Int) : Prop := ∃ (t : Addr) (k1 k2 : Tok), v = .ref t ∧ (t, ({ cls := .type "tuple", data := .seq #[.int q.1 k1, .int q.2 k2] } : Obj)) ∈ nw
theorem IntsT.mono {v : Value} {q : Int × Int} {nw nw' : List (Addr × Obj)} (x : IntsT nw v q) (hs : ∀ p ∈ nw, p ∈ nw') : IntsT nw' v q := by
  obtain ⟨t, k1, k2, e, h⟩ := x
  exact ⟨t, k1, k2, e, hs _ h⟩
theorem runS_len {S : List Int} {T : Int} : ∀ (k : Nat) (a : Int) (t : Nat) (found sp : List (Int × Int)), runS S T k a t found = some sp → sp.length ≤ found.length + k := by
  intro k
  induction k with
  | zero =>
    intro a t found sp h
    rw [runS] at h
    split at h
    · cases h
    · cases h; omega
  | succ k ih =>
    intro a t found sp h
    rw [runS] at h
    split at h
    · have h1 := ih _ _ _ _ h
      split at h1
      · rw [List.length_append, List.length_singleton] at h1; omega
      · omega
    · cases h; omega
section
variable {w : World} {mean : ExcName → Option Value} {mg mb : Str → Option Value} {A : Around} {s : Shared} {K : Flow → Shared → Prop} {E : Value → Shared → Prop} {h₀ : Heap} {L fa : Addr} {cd : Value} {bm : Str → Option Value}
set_option maxHeartbeats 4000000 in
/-- if is_bad: return False -/
theorem st12 {b : Bool} {vsp : Option Value} {news : List (Addr × Obj)} (X : (hd.heap_39 w.params).In h₀) (T : Top view (looseW view [Str.ofString "PaperError"]) mean mg mb h₀)
    (F : Fr h₀ L s.heap (fun y => if y = Str.ofString "spans" then vsp else if y = Str.ofString "is_bad" then some (.bool b) else bm y)) (N : News h₀ L s.heap news) (hb : b = false)
    (hh : A.handled = none) (hdp : A.depth + 60 < recursionLimit) (hun : A.units + 600 < cLine)
    (next : ∀ h' tk', Fr h₀ L h' (fun y => if y = Str.ofString "spans" then vsp else if y = Str.ofString "is_bad" then some (.bool b) else bm y) → News h₀ L h' news → K .next { s with heap := h', toks := tk' }) :
    wpAny (model PySem.Challenge.rw_nn0117_01.row.prog w) (A.deeper (lawEnv L fa cd)) (exec (lawStmt 12) (lawEnv L fa cd)) K E s := by
  (revert X; k_fill; intro X)
  obtain ⟨_, dp, fr, gd, un⟩ := A
  obtain rfl : _ = none := hh
  subst hb
  unfold lawStmt lawTail lawEnv lawParts PySem.Challenge.pw_nn0117_01
  dsimp only [List.drop]
  try k_fold
  k_steps
  exact next _ _ (by assumption) (by assumption)
set_option maxHeartbeats 4000000 in
/-- ends = [..] -/
theorem st13 {r : Addr} {items : List Value} {c' : Nat} {rest : List (Addr × Obj)} {sp : List (Int × Int)} (X : (hd.heap_39 w.params).In h₀) (T : Top view (looseW view [Str.ofString "PaperError"]) mean mg mb h₀)
    (F : Fr h₀ L s.heap (fun y => if y = Str.ofString "spans" then some (.ref r) else bm y)) (N : News h₀ L s.heap ((r, listOf (List.toArray items) c') :: rest)) (hsp : All2 (SpanS w h₀ rest) items sp) (hil : items.length ≤ 1000)
    (hh : A.handled = none) (hdp : A.depth + 60 < recursionLimit) (hun : A.units + 600 < cLine)
    (next : ∀ h' tk' D es rest', All2 (IntsT rest') es sp → (∀ p ∈ (r, listOf (List.toArray items) c') :: rest, p ∈ rest') → (∀ p ∈ rest', @Ne Nat p.1 D) →
      Fr h₀ L h' (fun y => if y = Str.ofString "ends" then some (.ref D) else if y = Str.ofString "spans" then some (.ref r) else bm y) → News h₀ L h' ((D, LCg.lst es) :: rest') → K .next { s with heap := h', toks := tk' }) :
    wpAny (model PySem.Challenge.rw_nn0117_01.row.prog w) (A.deeper (lawEnv L fa cd)) (exec (lawStmt 13) (lawEnv L fa cd)) K E s := by
  (revert X; k_fill; intro X)
  obtain ⟨_, dp, fr, gd, un⟩ := A
  obtain rfl : _ = none := hh
  unfold lawStmt lawTail lawEnv lawParts PySem.Challenge.pw_nn0117_01
  dsimp only [List.drop]
  try k_fold
  refine LCp.Assign_ListComp_P (F₀ := F) (by rfl) (by with_unfolding_all rfl) (by with_unfolding_all rfl) (by decide) (by rfl) (by decide) (by rfl) (by rfl) (by decide) (by rfl) (by rfl) ?_
  refine eval_ref (D := r) ?_ ?_
  · k_steps
    exact ⟨rfl, rfl⟩
  refine LCp.SrcLP.ledger (its := items.toArray) (k := c') (by rfl) F N (.head _) (by rw [List.size_toArray, sizeLine_eq]; omega) fun gg => compRestP_ind (fun i es nw => (∀ p ∈ (r, listOf (List.toArray items) c') :: rest, p ∈ nw) ∧ All2 (IntsT nw) es (sp.take i)) ?_ ?_ _ 0 [] _ (Nat.zero_add _) ⟨fun _ h => h, .nil⟩
  · rintro es nw ⟨hsub, hes⟩
    rw [List.size_toArray, hsp.length, List.take_length] at hes
    intro D h2 tk2 F2 N2 o2
    exact next _ _ _ _ _ hes hsub (off1_out o2) F2 N2
  · rintro i es nw v hi ⟨hsub, hes⟩ hv
    obtain ⟨q, hq, t, xv, yv, rfl, hm, hx, hy⟩ := hsp.get (i := i) (a := v) (by simpa using hv)
    obtain ⟨xa, rfl⟩ := hx.ref
    obtain ⟨ya, rfl⟩ := hy.ref
    refine ⟨t, _, .ref xa, .ref ya, _, rfl, hsub _ (.tail _ hm), rfl, rfl, ?_⟩
    intro I oI C oC D m₂ h2 tk2 E' hC hn1 hn2 F2 N2 off ne
    have hnbw : ∀ p ∈ rest, p ∈ nw := fun p hp => hsub p (.tail _ hp)
    have o3 := off.mem
    refine DVs.out hx fun dxx kx1 tx τx1 kx2 px τx2 sx1 sx2 tvx bx gx => DVs.out hy fun dxy ky1 ty τy1 ky2 py τy2 sy1 sy2 tvy by' gy => ?_
    clear F N
    show wpAny _ _ _ _ _ _
    k_steps
    rename Fr _ _ _ _ => F5
    rename News _ _ _ _ => N5
    rename _ < _ ∧ _ < _ ∧ _ < _ ∧ AllLt _ _ => l5
    refine compEnd_push F5 N5 l5 off (.inr ⟨_, .tail _ (hsub _ (.head _)), rfl, _, rfl⟩) ⟨fun p hp => .tail _ (hsub p hp), ?_⟩
    rw [List.take_add_one, hq]
    exact All2.snoc (b := q) ⟨_, _, _, rfl, .head _⟩ (hes.imp fun _ _ z => z.mono fun p hp => .tail _ hp)
end

-- p32_told
/-- told, reckoned -/
def toldF (n : Int) : Int × Int := if n % 10 = 0 then (n / 10, 0) else (n, 1)
theorem TV.told {t p n : Int} (h : TV t p n) : toldF n = (t, p) := by
  unfold toldF
  rcases h with ⟨rfl, rfl⟩ | ⟨rfl, rfl, h⟩
  · rw [if_pos (by omega)]
    congr 1
    omega
  · rw [if_neg h]
/-- a tuple of two such in the ledger -/
def ToldT (nw : List (Addr × Obj)) (v : Value) (q : (Int × Int) × (Int × Int)) : Prop := ∃ (t : Addr) (a b : Value), v = .ref t ∧ (t, ({ cls := .type "tuple", data := .seq #[a, b] } : Obj)) ∈ nw ∧ IntsT nw a q.1 ∧ IntsT nw b q.2
theorem ToldT.mono {v : Value} {q : (Int × Int) × (Int × Int)} {nw nw' : List (Addr × Obj)} (x : ToldT nw v q) (hs : ∀ p ∈ nw, p ∈ nw') : ToldT nw' v q := by
  obtain ⟨t, a, b, e, h, i, j⟩ := x
  exact ⟨t, a, b, e, hs _ h, i.mono hs, j.mono hs⟩
theorem IntsT.at {h₀ h : Heap} {L : Addr} {v : Value} {q : Int × Int} {nw : List (Addr × Obj)} (x : IntsT nw v q) (N : News h₀ L h nw) : Ints2 h v q := by
  obtain ⟨t, k1, k2, e, hm⟩ := x
  exact ⟨t, k1, k2, e, _, (N _ hm).1, rfl, _, rfl⟩
theorem ToldT.at {h₀ h : Heap} {L : Addr} {v : Value} {q : (Int × Int) × (Int × Int)} {nw : List (Addr × Obj)} (x : ToldT nw v q) (N : News h₀ L h nw) : Told2 h v q := by
  obtain ⟨t, a, b, e, hm, i, j⟩ := x
  exact ⟨t, a, b, e, ⟨_, (N _ hm).1, rfl, _, rfl⟩, i.at N, j.at N⟩
def told2F (q : Int × Int) : (Int × Int) × (Int × Int) := (toldF q.1, toldF q.2)
theorem TV.told2 {t p t' p' : Int} {q : Int × Int} (h : TV t p q.1) (h' : TV t' p' q.2) : told2F q = ((t, p), (t', p')) := by
  unfold told2F
  rw [h.told, h'.told]
theorem push3 {α : Type} {t u v x1 x2 x3 x4 i c d : α} {l : List α} : ∀ p ∈ i :: c :: d :: t :: u :: v :: l, p ∈ t :: u :: x1 :: x2 :: v :: x3 :: x4 :: i :: c :: d :: l := fun p hp => by
  simp only [List.mem_cons] at hp ⊢
  rcases hp with h | h | h | h | h | h | h <;> simp [h]
theorem push3' {α : Type} {t u v i c d : α} {l : List α} : ∀ p ∈ i :: c :: d :: t :: u :: v :: l, p ∈ t :: u :: v :: i :: c :: d :: l := fun p hp => by
  simp only [List.mem_cons] at hp ⊢
  rcases hp with h | h | h | h | h | h | h <;> simp [h]
theorem told_snoc {sp : List (Int × Int)} {i : Nat} {q : Int × Int} {ys : List Value} {nw : List (Addr × Obj)} {t u v : Addr} {a b a' b' : Int} {k1 k2 k3 k4 : Tok} (hq : sp[i]? = some q) (h : TV a b q.1) (h' : TV a' b' q.2) (hys : All2 (ToldT nw) ys ((sp.map told2F).take i)) :
    All2 (ToldT ((t, ({ cls := .type "tuple", data := .seq #[.ref v, .ref u] } : Obj)) :: (u, ({ cls := .type "tuple", data := .seq #[.int a' k3, .int b' k4] } : Obj)) :: (v, ({ cls := .type "tuple", data := .seq #[.int a k1, .int b k2] } : Obj)) :: nw)) (ys ++ [.ref t]) ((sp.map told2F).take (i + 1)) := by
  rw [List.take_add_one, List.getElem?_map, hq, Option.map_some, h.told2 h']
  exact All2.snoc (b := ((a, b), (a', b'))) ⟨t, _, _, rfl, .head _, ⟨_, _, _, rfl, .tail _ (.tail _ (.head _))⟩, ⟨_, _, _, rfl, .tail _ (.head _)⟩⟩ (hys.imp fun _ _ z => z.mono fun p hp => .tail _ (.tail _ (.tail _ hp)))
theorem compEnd_told {s₁ : Shared} {h₀ h' : Heap} {L I C D t u v x1 x2 x3 x4 : Addr} {m : Str → Option Value} {oI oC oD ot ou ov o1 o2 o3 o4 : Obj} {S : List (Addr × Obj) → Prop} {r : Value → List (Addr × Obj) → Prop} {y : Value} {tk : Nat} {nw : List (Addr × Obj)} {X Y Z : Prop}
    (F : Fr h₀ L h' m) (N : News h₀ L h' ((t, ot) :: (u, ou) :: (x1, o1) :: (x2, o2) :: (v, ov) :: (x3, o3) :: (x4, o4) :: (I, oI) :: (C, oC) :: (D, oD) :: nw))
    (lt : u < t ∧ x1 < t ∧ x2 < t ∧ v < t ∧ x3 < t ∧ x4 < t ∧ I < t ∧ C < t ∧ D < t ∧ X) (lu : x1 ≠ u ∧ x2 ≠ u ∧ v ≠ u ∧ x3 ≠ u ∧ x4 ≠ u ∧ I ≠ u ∧ C ≠ u ∧ D ≠ u ∧ Y) (lv : x3 ≠ v ∧ x4 ≠ v ∧ I ≠ v ∧ C ≠ v ∧ D ≠ v ∧ Z)
    (off : LCg.Off3 I C D nw) (hS : S ((t, ot) :: (u, ou) :: (v, ov) :: nw)) (hr : r y ((t, ot) :: (u, ou) :: (v, ov) :: nw)) :
    LCg.CompEnd h₀ L m s₁ I oI C oC D oD S r y { s₁ with heap := h', toks := tk } :=
  LCg.CompEnd.intro F N ((t, ot) :: (u, ou) :: (v, ov) :: nw) push3
    ⟨⟨Nat.ne_of_gt lt.2.2.2.2.2.2.1, Nat.ne_of_gt lt.2.2.2.2.2.2.2.1, Nat.ne_of_gt lt.2.2.2.2.2.2.2.2.1⟩, ⟨Ne.symm lu.2.2.2.2.2.1, Ne.symm lu.2.2.2.2.2.2.1, Ne.symm lu.2.2.2.2.2.2.2.1⟩, ⟨Ne.symm lv.2.2.1, Ne.symm lv.2.2.2.1, Ne.symm lv.2.2.2.2.1⟩, off⟩ hS hr
theorem compEnd_told' {s₁ : Shared} {h₀ h' : Heap} {L I C D t u v : Addr} {m : Str → Option Value} {oI oC oD ot ou ov : Obj} {S : List (Addr × Obj) → Prop} {r : Value → List (Addr × Obj) → Prop} {y : Value} {tk : Nat} {nw : List (Addr × Obj)} {X Y Z : Prop}
    (F : Fr h₀ L h' m) (N : News h₀ L h' ((t, ot) :: (u, ou) :: (v, ov) :: (I, oI) :: (C, oC) :: (D, oD) :: nw))
    (lt : u < t ∧ v < t ∧ I < t ∧ C < t ∧ D < t ∧ X) (lu : v ≠ u ∧ I ≠ u ∧ C ≠ u ∧ D ≠ u ∧ Y) (lv : I ≠ v ∧ C ≠ v ∧ D ≠ v ∧ Z)
    (off : LCg.Off3 I C D nw) (hS : S ((t, ot) :: (u, ou) :: (v, ov) :: nw)) (hr : r y ((t, ot) :: (u, ou) :: (v, ov) :: nw)) :
    LCg.CompEnd h₀ L m s₁ I oI C oC D oD S r y { s₁ with heap := h', toks := tk } :=
  LCg.CompEnd.intro F N ((t, ot) :: (u, ou) :: (v, ov) :: nw) push3'
    ⟨⟨Nat.ne_of_gt lt.2.2.1, Nat.ne_of_gt lt.2.2.2.1, Nat.ne_of_gt lt.2.2.2.2.1⟩, ⟨Ne.symm lu.2.1, Ne.symm lu.2.2.1, Ne.symm lu.2.2.2.1⟩, ⟨Ne.symm lv.1, Ne.symm lv.2.1, Ne.symm lv.2.2.1⟩, off⟩ hS hr
section
variable {w : World} {mean : ExcName → Option Value} {mg mb : Str → Option Value} {A : Around} {s : Shared} {K : Flow → Shared → Prop} {E : Value → Shared → Prop} {h₀ : Heap} {L fa : Addr} {cd : Value} {bm : Str → Option Value}
set_option maxHeartbeats 8000000 in
/-- if [..told()..] != [..told()..]: return False -/
theorem st14 {r D : Addr} {items es : List Value} {c' : Nat} {rest : List (Addr × Obj)} {sp : List (Int × Int)} (X : (hd.heap_39 w.params).In h₀) (T : Top view (looseW view [Str.ofString "PaperError"]) mean mg mb h₀)
    (F : Fr h₀ L s.heap (fun y => if y = Str.ofString "ends" then some (.ref D) else if y = Str.ofString "spans" then some (.ref r) else bm y)) (N : News h₀ L s.heap ((D, LCg.lst es) :: rest)) (hr : (r, listOf (List.toArray items) c') ∈ rest)
    (hsp : All2 (SpanS w h₀ rest) items sp) (hes : All2 (IntsT rest) es sp) (hil : items.length ≤ 1000)
    (hh : A.handled = none) (hdp : A.depth + 60 < recursionLimit) (hun : A.units + 600 < cLine)
    (next : ∀ h' tk', Fr h₀ L h' (fun y => if y = Str.ofString "ends" then some (.ref D) else if y = Str.ofString "spans" then some (.ref r) else bm y) → News h₀ L h' ((D, LCg.lst es) :: rest) → K .next { s with heap := h', toks := tk' }) :
    wpAny (model PySem.Challenge.rw_nn0117_01.row.prog w) (A.deeper (lawEnv L fa cd)) (exec (lawStmt 14) (lawEnv L fa cd)) K E s := by
  (revert X; k_fill; intro X)
  obtain ⟨_, dp, fr, gd, un⟩ := A
  obtain rfl : _ = none := hh
  unfold lawStmt lawTail lawEnv lawParts PySem.Challenge.pw_nn0117_01
  dsimp only [List.drop]
  have mk8 : Halt (8 = 8) := rfl
  have hel : es.length ≤ 1000 := by rw [hes.length, ← hsp.length]; exact hil
  try k_fold
  k_steps
  refine Halt.mk (LCp.ListComp_P (F₀ := F) (by with_unfolding_all rfl) (by decide) (by rfl) (by decide) (by rfl) (by rfl) (by decide) ?_)
  refine eval_ref (D := D) ?_ ?_
  · k_steps
    exact ⟨rfl, rfl⟩
  refine LCp.SrcLP.ledger (its := es.toArray) (k := es.length) (by rfl) F N (.head _) (by rw [List.size_toArray, sizeLine_eq]; omega) fun gg => compRestP_ind (fun i ys nw => (∀ p ∈ (D, LCg.lst es) :: rest, p ∈ nw) ∧ All2 (ToldT nw) ys ((sp.map told2F).take i)) ?_ ?_ _ 0 [] _ (Nat.zero_add _) ⟨fun _ h => h, .nil⟩
  · rintro ys nw ⟨hsub, hys⟩
    rw [List.size_toArray, hes.length, ← List.length_map (f := told2F), List.take_length] at hys
    intro D1 h2 tk2 F2 N2 o2
    clear F N
    k_steps
    refine Halt.mk (LCp.ListComp_P (F₀ := F2) (by with_unfolding_all rfl) (by decide) (by rfl) (by decide) (by rfl) (by rfl) (by decide) ?_)
    refine eval_ref (D := r) ?_ ?_
    · k_steps
      exact ⟨rfl, rfl⟩
    have hD1 := off1_out o2
    refine LCp.SrcLP.ledger (its := items.toArray) (k := c') (by rfl) F2 N2 (.tail _ (hsub _ (.tail _ hr))) (by rw [List.size_toArray, sizeLine_eq]; omega) fun gg => compRestP_ind (fun i ys' nw' => (∀ p ∈ (D1, LCg.lst ys) :: nw, p ∈ nw') ∧ All2 (ToldT nw') ys' ((sp.map told2F).take i)) ?_ ?_ _ 0 [] _ (Nat.zero_add _) ⟨fun _ h => h, .nil⟩
    · rintro ys2 nw2 ⟨hsub2, hys2⟩
      rw [List.size_toArray, hsp.length, ← List.length_map (f := told2F), List.take_length] at hys2
      intro D3 h3 tk3 F3 N3 o3
      clear F2 N2
      have i1 : h3.IsList D1 ys.toArray := ⟨_, (N3 _ (.tail _ (hsub2 _ (.head _)))).1, rfl, _, rfl⟩
      have i3 : h3.IsList D3 ys2.toArray := ⟨_, (N3 _ (.head _)).1, rfl, _, rfl⟩
      refine ne_told i1 i3 (hys.imp fun _ _ z => (z.mono fun p hp => .tail _ (hsub2 p (.tail _ hp))).at N3) (hys2.imp fun _ _ z => (z.mono fun p hp => .tail _ hp).at N3) (by ktr_units) ?_
      have N4 : News h₀ L h3 ((D, LCg.lst es) :: rest) := fun p hp => N3 p (.tail _ (hsub2 _ (.tail _ (hsub p hp))))
      clear N3 hys hys2 i1 i3
      k_steps
      exact next _ _ F3 N4
    · rintro i ys2 nw2 v hi ⟨hsub2, hys2⟩ hv
      obtain ⟨q, hq, t, xv, yv, rfl, hm, hx, hy⟩ := hsp.get (i := i) (a := v) (by simpa using hv)
      obtain ⟨xa, rfl⟩ := hx.ref
      obtain ⟨ya, rfl⟩ := hy.ref
      refine ⟨t, _, .ref xa, .ref ya, _, rfl, hsub2 _ (.tail _ (hsub _ (.tail _ hm))), rfl, rfl, ?_⟩
      intro I oI C oC D2 m₂ h3 tk3 E' hC hn1 hn2 F3 N3 off ne
      have hnbw : ∀ p ∈ rest, p ∈ nw2 := fun p hp => hsub2 p (.tail _ (hsub _ (.tail _ hp)))
      have o3 := off.mem
      refine DVs.out hx fun dxx kx1 tx τx1 kx2 px τx2 sx1 sx2 tvx bx gx => DVs.out hy fun dxy ky1 ty τy1 ky2 py τy2 sy1 sy2 tvy by' gy => ?_
      clear F2 N2 hys
      show wpAny _ _ _ _ _ _
      k_steps
      refine compEnd_told' (by assumption) (by assumption) (by assumption) (by assumption) (by assumption) off (.inr ⟨_, .tail _ (.tail _ (.tail _ (hsub2 _ (.tail _ (hsub _ (.tail _ hr)))))), rfl, _, rfl⟩) ⟨fun p hp => .tail _ (.tail _ (.tail _ (hsub2 p hp))), told_snoc hq tvx tvy hys2⟩
  · rintro i ys nw v hi ⟨hsub, hys⟩ hv
    obtain ⟨q, hq, t, k1, k2, rfl, hm⟩ := hes.get (i := i) (a := v) (by simpa using hv)
    refine ⟨t, _, .int q.1 k1, .int q.2 k2, _, rfl, hsub _ (.tail _ hm), rfl, rfl, ?_⟩
    intro I oI C oC D2 m₂ h2 tk2 E' hC hn1 hn2 F2 N2 off ne
    have o3 := off.mem
    clear F N
    show wpAny _ _ _ _ _ _
    k_steps
    refine compEnd_told (by assumption) (by assumption) (by assumption) (by assumption) (by assumption) off (.inr ⟨_, .tail _ (.tail _ (.tail _ (hsub _ (.head _)))), rfl, _, rfl⟩) ⟨fun p hp => .tail _ (.tail _ (.tail _ (hsub p hp))), told_snoc hq (by assumption) (by assumption) hys⟩
end

-- p33_pat
theorem line_p33_1 : True := by
  (k_with "compareOp Eq ref ref" => ((have hm9 := (by with_reducible assumption : Halt (9 = 9))); clear hm9; refine Halt.out ?_))
  trivial
theorem patOf_even {xs : List Int} (h : (xs.length : Int).fmod 2 = 0) : patOf xs = xs := by
  rw [Int.fmod_eq_emod_of_nonneg _ (by decide)] at h
  unfold patOf
  rw [if_pos (by omega)]
theorem patOf_odd {xs : List Int} (h : (xs.length : Int).fmod 2 ≠ 0) : patOf xs = xs ++ xs := by
  rw [Int.fmod_eq_emod_of_nonneg _ (by decide)] at h
  unfold patOf
  rw [if_neg (by omega)]
section
variable {w : World} {mean : ExcName → Option Value} {mg mb : Str → Option Value} {A : Around} {s : Shared} {K : Flow → Shared → Prop} {E : Value → Shared → Prop} {h₀ : Heap} {L fa : Addr} {cd : Value} {bm : Str → Option Value}
set_option maxHeartbeats 4000000 in
/-- if steps == []: return ends == .. -/
theorem st15 {De D : Addr} {ys es : List Value} {xs : List Int} {c0 : Nat} {tot : Int} {t3 : Tok} {vsp vib vp : Option Value} {rest : List (Addr × Obj)} {sp : List (Int × Int)} (X : (hd.heap_39 w.params).In h₀) (T : Top view (looseW view [Str.ofString "PaperError"]) mean mg mb h₀)
    (F : Fr h₀ L s.heap (fun y => if y = Str.ofString "ends" then some (.ref De) else if y = Str.ofString "spans" then vsp else if y = Str.ofString "is_bad" then vib else if y = Str.ofString "total" then some (.int tot t3) else if y = Str.ofString "phase" then vp else if y = Str.ofString "steps" then some (.ref D) else bm y))
    (N : News h₀ L s.heap ((De, LCg.lst es) :: rest)) (hD : (D, listOf ys.toArray c0) ∈ rest) (hxs : IntsAre ys xs) (hxl : xs.length ≤ 4) (hes : All2 (IntsT rest) es sp) (htot : 0 ≤ tot ∧ tot < 60)
    (hc : (tot ≤ 0 ∧ sp = []) ∨ (0 < tot ∧ xs = [] ∧ sp = [(0, tot)]) ∨ (0 < tot ∧ xs ≠ []))
    (hh : A.handled = none) (hdp : A.depth + 60 < recursionLimit) (hun : A.units + 600 < cLine)
    (next : xs ≠ [] → ∀ h' tk', Fr h₀ L h' (fun y => if y = Str.ofString "ends" then some (.ref De) else if y = Str.ofString "spans" then vsp else if y = Str.ofString "is_bad" then vib else if y = Str.ofString "total" then some (.int tot t3) else if y = Str.ofString "phase" then vp else if y = Str.ofString "steps" then some (.ref D) else bm y) → News h₀ L h' ((De, LCg.lst es) :: rest) → K .next { s with heap := h', toks := tk' })
    (ret : ∀ h' tk' m', Fr h₀ L h' m' → K (.ret (.bool true)) { s with heap := h', toks := tk' }) :
    wpAny (model PySem.Challenge.rw_nn0117_01.row.prog w) (A.deeper (lawEnv L fa cd)) (exec (lawStmt 15) (lawEnv L fa cd)) K E s := by
  (revert X; k_fill; intro X)
  obtain ⟨_, dp, fr, gd, un⟩ := A
  obtain rfl : _ = none := hh
  unfold lawStmt lawTail lawEnv lawParts PySem.Challenge.pw_nn0117_01
  dsimp only [List.drop]
  try k_fold
  have mk9 : Halt (9 = 9) := rfl
  k_steps
  rename Fr _ _ _ _ => F9
  rename News _ _ _ _ => N9
  refine Halt.mk (eq_intsK (vs := ys) (us := []) ⟨_, (N9 _ (.tail _ (.tail _ hD))).1, rfl, _, rfl⟩ hxs ⟨_, (N9 _ (.head _)).1, rfl, _, rfl⟩ .nil (by ktr_units) ?_)
  by_cases hnil : xs = []
  · rw [decide_eq_true hnil]
    clear next
    k_steps
    all_goals
      rename Fr _ _ _ _ => F8
      rename News _ _ _ _ => N8
    · have e : sp = [(0, tot)] := by
        rcases hc with ⟨h, _⟩ | ⟨_, _, h⟩ | ⟨_, h⟩
        · omega
        · exact h
        · exact absurd hnil h
      subst e
      exact Halt.mk (eq_pairs (vs := es) (vs' := [_]) (qs := [(0, tot)]) ⟨_, (N8 _ (.tail _ (.tail _ (.tail _ (.head _))))).1, rfl, _, rfl⟩ ⟨_, (N8 _ (.head _)).1, rfl, _, rfl⟩ (hes.imp fun _ _ z => (z.mono fun p hp => .tail _ (.tail _ (.tail _ (.tail _ hp)))).at N8) (.cons ⟨_, _, _, rfl, _, (N8 _ (.tail _ (.head _))).1, rfl, _, rfl⟩ .nil) (by ktr_units) (ret _ _ _ F8))
    · have e : sp = [] := by
        rcases hc with ⟨_, h⟩ | ⟨h, _⟩ | ⟨h, _⟩
        · exact h
        · omega
        · omega
      subst e
      exact Halt.mk (eq_pairs (vs := es) (vs' := []) (qs := []) ⟨_, (N8 _ (.tail _ (.tail _ (.head _)))).1, rfl, _, rfl⟩ ⟨_, (N8 _ (.head _)).1, rfl, _, rfl⟩ (hes.imp fun _ _ z => (z.mono fun p hp => .tail _ (.tail _ (.tail _ hp))).at N8) .nil (by ktr_units) (ret _ _ _ F8))
  · rw [decide_eq_false hnil]
    k_steps
    exact next hnil _ _ F9 fun p hp => N9 p (.tail _ hp)
set_option maxHeartbeats 4000000 in
/-- pattern = steps if len(steps) % 2 == 0 else steps + steps -/
theorem st16 {D : Addr} {ys : List Value} {xs : List Int} {c0 : Nat} {ve vsp vib vt vp : Option Value} {news : List (Addr × Obj)} (X : (hd.heap_39 w.params).In h₀) (T : Top view (looseW view [Str.ofString "PaperError"]) mean mg mb h₀)
    (F : Fr h₀ L s.heap (fun y => if y = Str.ofString "ends" then ve else if y = Str.ofString "spans" then vsp else if y = Str.ofString "is_bad" then vib else if y = Str.ofString "total" then vt else if y = Str.ofString "phase" then vp else if y = Str.ofString "steps" then some (.ref D) else bm y))
    (N : News h₀ L s.heap news) (hD : (D, listOf ys.toArray c0) ∈ news) (hxs : IntsAre ys xs) (hxl : xs.length ≤ 4)
    (hh : A.handled = none) (hdp : A.depth + 60 < recursionLimit) (hun : A.units + 600 < cLine)
    (next : ∀ h' tk' Dp vs cp news', IntsAre vs (patOf xs) → (Dp, listOf (List.toArray vs) cp) ∈ news' → (∀ p ∈ news, p ∈ news') →
      Fr h₀ L h' (fun y => if y = Str.ofString "pattern" then some (.ref Dp) else if y = Str.ofString "ends" then ve else if y = Str.ofString "spans" then vsp else if y = Str.ofString "is_bad" then vib else if y = Str.ofString "total" then vt else if y = Str.ofString "phase" then vp else if y = Str.ofString "steps" then some (.ref D) else bm y) → News h₀ L h' news' → K .next { s with heap := h', toks := tk' }) :
    wpAny (model PySem.Challenge.rw_nn0117_01.row.prog w) (A.deeper (lawEnv L fa cd)) (exec (lawStmt 16) (lawEnv L fa cd)) K E s := by
  (revert X; k_fill; intro X)
  obtain ⟨_, dp, fr, gd, un⟩ := A
  obtain rfl : _ = none := hh
  unfold lawStmt lawTail lawEnv lawParts PySem.Challenge.pw_nn0117_01
  dsimp only [List.drop]
  try k_fold
  have hl : s.heap.IsList D ys.toArray := ⟨_, (N _ hD).1, rfl, _, rfl⟩
  have hln := hxs.length
  k_steps
  all_goals
    rename Fr _ _ _ _ => F9
    rename News _ _ _ _ => N9
  · exact next _ _ _ ys _ _ (by rw [patOf_even (by rw [← hln]; assumption)]; exact hxs) hD (fun _ h => h) F9 N9
  · exact next _ _ _ _ _ _ (by rw [patOf_odd (by rw [← hln]; assumption)]; assumption) (.head _) (fun p hp => .tail _ hp) F9 N9
set_option maxHeartbeats 4000000 in
/-- last = 0 -/
theorem st17 {m : Str → Option Value} {news : List (Addr × Obj)} (F : Fr h₀ L s.heap m) (N : News h₀ L s.heap news)
    (next : ∀ h' tk' tl, Fr h₀ L h' (fun y => if y = Str.ofString "last" then some (.int 0 tl) else m y) → News h₀ L h' news → K .next { s with heap := h', toks := tk' }) :
    wpAny (model PySem.Challenge.rw_nn0117_01.row.prog w) (A.deeper (lawEnv L fa cd)) (exec (lawStmt 17) (lawEnv L fa cd)) K E s := by
  unfold lawStmt lawTail lawEnv lawParts PySem.Challenge.pw_nn0117_01
  dsimp only [List.drop]
  try k_fold
  k_steps
  exact next _ _ _ (by assumption) (by assumption)
end

-- p34_for
theorem if_two {α : Type} {a b : Str} {u v u2 v2 : α} {r : Str → α} : (fun z => if z = a then u else if z = b then v else if z = a then u2 else if z = b then v2 else r z) = fun z => if z = a then u else if z = b then v else r z := by
  funext z
  by_cases h : z = a
  · rw [if_pos h, if_pos h]
  · rw [if_neg h, if_neg h, if_neg h]
    by_cases h2 : z = b
    · rw [if_pos h2, if_pos h2]
    · rw [if_neg h2, if_neg h2, if_neg h2]
theorem if_bound {α : Type} {a b : Str} {r : Str → α} : r = fun z => if z = a then r a else if z = b then r b else r z := by
  funext z
  by_cases h : z = a
  · rw [if_pos h, h]
  · rw [if_neg h]
    by_cases h2 : z = b
    · rw [if_pos h2, h2]
    · rw [if_neg h2]
/-- between the turns of the loop over the ends -/
def EndsJ (r : Str → Option Value) (T : Int) (sp : List (Int × Int)) (news : List (Addr × Obj)) (i : Nat) (m : Str → Option Value) (nw : List (Addr × Obj)) : Prop :=
  nw = news ∧ ∃ ve vb l t, m = (fun y => if y = Str.ofString "end" then ve else if y = Str.ofString "begin" then vb else if y = Str.ofString "last" then some (.int l t) else r y) ∧ okL T l (sp.drop i)
section
variable {w : World} {mean : ExcName → Option Value} {mg mb : Str → Option Value} {A : Around} {s : Shared} {K : Flow → Shared → Prop} {E : Value → Shared → Prop} {h₀ : Heap} {L fa : Addr} {cd : Value} {bm : Str → Option Value}
set_option maxHeartbeats 4000000 in
/-- for begin, end in ends -/
theorem st18 {De : Addr} {es : List Value} {tot : Int} {t0 t3 : Tok} {vpt vsp vib : Option Value} {rest : List (Addr × Obj)} {sp : List (Int × Int)} (X : (hd.heap_39 w.params).In h₀) (T : Top view (looseW view [Str.ofString "PaperError"]) mean mg mb h₀)
    (F : Fr h₀ L s.heap (fun y => if y = Str.ofString "last" then some (.int 0 t0) else if y = Str.ofString "pattern" then vpt else if y = Str.ofString "ends" then some (.ref De) else if y = Str.ofString "spans" then vsp else if y = Str.ofString "is_bad" then vib else if y = Str.ofString "total" then some (.int tot t3) else bm y))
    (N : News h₀ L s.heap rest) (hD : (De, LCg.lst es) ∈ rest) (hes : All2 (IntsT rest) es sp) (hok : okL tot 0 sp)
    (hh : A.handled = none) (hdp : A.depth + 60 < recursionLimit) (hun : A.units + 600 < cLine) (hE : PassesOwn (model PySem.Challenge.rw_nn0117_01.row.prog w) (A.deeper (lawEnv L fa cd)) (lawEnv L fa cd) E)
    (next : ∀ h' tk' ve vb vl, Fr h₀ L h' (fun y => if y = Str.ofString "end" then ve else if y = Str.ofString "begin" then vb else if y = Str.ofString "last" then vl else if y = Str.ofString "pattern" then vpt else if y = Str.ofString "ends" then some (.ref De) else if y = Str.ofString "spans" then vsp else if y = Str.ofString "is_bad" then vib else if y = Str.ofString "total" then some (.int tot t3) else bm y) → News h₀ L h' rest → K .next { s with heap := h', toks := tk' }) :
    wpAny (model PySem.Challenge.rw_nn0117_01.row.prog w) (A.deeper (lawEnv L fa cd)) (exec (lawStmt 18) (lawEnv L fa cd)) K E s := by
  (revert X; k_fill; intro X)
  obtain ⟨_, dp, fr, gd, un⟩ := A
  obtain rfl : _ = none := hh
  unfold lawStmt lawTail lawEnv lawParts PySem.Challenge.pw_nn0117_01
  dsimp only [List.drop]
  try k_fold
  refine For_invT h₀ ?_ (by intro _; rfl) hE
  refine eval_ref (D := De) ?_ ?_
  · k_steps
    exact ⟨rfl, rfl⟩
  refine for_pairs (EndsJ (fun y => if y = Str.ofString "pattern" then vpt else if y = Str.ofString "ends" then some (.ref De) else if y = Str.ofString "spans" then vsp else if y = Str.ofString "is_bad" then vib else if y = Str.ofString "total" then some (.int tot t3) else bm y) tot sp rest) (its := es.toArray) rfl (by rfl) (by rfl) (by rfl) F N (.inr ⟨_, hD, rfl, _, rfl⟩) ⟨rfl, _, _, 0, t0, if_bound, hok⟩ ?_ ?_
  · rintro i m₁ news₁ v hv ⟨rfl, ve, vb, l, tl, rfl, ho⟩
    obtain ⟨q, hq, t, k1, k2, rfl, hm⟩ := hes.get (i := i) (a := v) (by simpa using hv)
    refine ⟨t, _, .int q.1 k1, .int q.2 k2, _, rfl, hm, rfl, rfl, ?_⟩
    intro s₁ I h2 tk2 own off F2 N2
    rw [if_two] at F2
    obtain ⟨hlt, hqe⟩ := List.getElem?_eq_some_iff.mp hq
    rw [List.drop_eq_getElem_cons hlt, hqe] at ho
    obtain ⟨ho1, ho2⟩ := ho
    obtain ⟨g1, g2⟩ := not_or.mp ho1
    obtain ⟨g2, g3⟩ := not_or.mp g2
    clear F N ho1 hE
    k_steps
    rename Fr _ _ _ _ => F9
    rename News _ _ _ _ => N9
    rw [if_swap2 (by decide) (by decide)] at F9
    exact LoopStepU.intro F9 N9 off ⟨rfl, _, _, _, _, rfl, ho2⟩
  · rintro m₁ news₁ h2 tk2 ⟨rfl, ve, vb, l, tl, rfl, _⟩ F2 N2
    exact next _ _ _ _ _ F2 N2
end

-- p35_place
section
open LCg
variable {prog : Program} {w : World} {A : Around} {E : Value → Shared → Prop} {s : Shared} {h₀ : Heap} {env : Env}
/-- a for over a range of n turns from 0, whatever its target, by an invariant over the turn's number, the frame and the ledger -/
theorem for_rangeT {r : Addr} {n : Nat} {x : Str} {px : Pos} {t u v : Tok} {body : List Stmt} {Q : Flow → Shared → Prop} {m₀ : Str → Option Value} {news : List (Addr × Obj)} (J : Nat → (Str → Option Value) → List (Addr × Obj) → Prop)
    (hh : A.handled = none) (F : Fr h₀ env.locals s.heap m₀) (N : News h₀ env.locals s.heap news) (hr : IsRange s.heap r 0 n 1 t u v) (hn : n ≤ 100000) (hj : J 0 m₀ news)
    (turn : ∀ I i tki m₁ news₁ (s₁ : Shared) own, i < n → J i m₁ news₁ → (∀ p ∈ own, p.1 = I) → (∃ o, (I, o) ∈ own) → (∀ p ∈ news₁, p.1 ∉ [I]) → Fr h₀ env.locals s₁.heap m₁ → News h₀ env.locals s₁.heap (own ++ news₁) →
      wpAny (model prog w) A (assign (.Name x px) env (.int (i : Int) tki)) (fun _ s₃ => wpAny (model prog w) A (execs body env) (LoopStepU h₀ env.locals [I] own (J (i + 1)) s₁) E s₃) E s₁)
    (done : ∀ m₁ news₁ h tk, J n m₁ news₁ → Fr h₀ env.locals h m₁ → News h₀ env.locals h news₁ → Q .next { s with heap := h, toks := tk }) :
    wpAny (model prog w) A (pyIter (.ref r)) (fun it s₂ => LoopAtT prog w A h₀ env (.Name x px) body Q E it s₂) E s := by
  have hrs : Builtin.Range.rangeSize 0 (n : Int) 1 = ((n : Nat) : Int) := by
    simp [Builtin.Range.rangeSize]
    omega
  refine wpAny_pyIter_range hr (small_one (by decide) (by decide) (by omega) (by omega)) ?_
  have W := LCg.range_walks (prog := prog) (w := w) (I := s.heap.objs.size) hh 0 n
  refine ⟨_, _, _, n, _, _, m₀, news, J, rfl, W, ?_, ?_, ?_, ?_, F.push _, (fun p hp => ⟨Heap.get?_push_of_some _ (N p hp).1, (N p hp).2⟩), fun i s' v Q' _ q => ?_, hj, ?_, ?_⟩
  · intro hm
    exact absurd F.ns.lt ((List.mem_singleton.mp hm) ▸ Nat.lt_irrefl _)
  · intro b hb
    rw [List.mem_singleton.mp hb]
    exact next_is_new F
  · intro p hp hI
    exact absurd (Heap.lt_size (N p hp).1) ((List.mem_singleton.mp hI) ▸ Nat.lt_irrefl _)
  · show IsRangeIter _ _ _ _ _
    rw [hrs]
    simpa using Heap.get?_push_size _ rfl
  · cases v <;> exact wpAny_pure q
  · rintro i v m₁ news₁ s₁ own hin ⟨tki, rfl⟩ hJ hoff hown _ hall hst F₁ N₁
    rw [Int.zero_add]
    exact turn _ i tki m₁ news₁ s₁ own hin hJ (fun p hp => by simpa using hown p hp) ⟨_, hall _ (.head _) (next_is_new F) _ hst⟩ hoff F₁ N₁
  · rintro h' tk m' news' F' N' _ hJ
    exact done m' news' h' tk hJ F' N'
/-- a name that is a cell is stored -/
theorem assign_cell {x : Str} {px : Pos} {c : Addr} {oc : Obj} {v₀ : Option Value} {v : Value} {own rest : List (Addr × Obj)} {m : Str → Option Value} {Q : Unit → Shared → Prop}
    (F : Fr h₀ env.locals s.heap m) (N : News h₀ env.locals s.heap (own ++ (c, oc) :: rest)) (hc : oc.data = .cell v₀) (ho : ∀ p ∈ own, @Ne Nat p.1 c) (hr : ∀ p ∈ rest, @Ne Nat p.1 c)
    (hk : env.scope.kind = .function) (hl : env.kindOf x = some .cell) (hcl : env.cells.lookup x = some c)
    (q : ∀ h' o', o'.data = .cell (some v) → Fr h₀ env.locals h' m → News h₀ env.locals h' (own ++ (c, o') :: rest) → Q () { s with heap := h' }) :
    wpAny (model prog w) A (assign (.Name x px) env v) Q E s := by
  obtain ⟨e1, e2, e3⟩ := N (c, oc) (List.mem_append.mpr (.inr (.head _)))
  refine wpAny_assign_Name (wpAny_storeName_cell hk hl hcl ⟨oc, e1, hc⟩ fun h' hv hs => ?_)
  obtain ⟨o', e4, e5⟩ := hv
  refine q h' o' e5 (F.change hs e2 e3) fun p hp => ?_
  have old : ∀ p : Addr × Obj, @Ne Nat p.1 c → p ∈ own ++ (c, oc) :: rest → h'.get? p.1 = some p.2 ∧ p.1 ≠ env.locals ∧ h₀.get? p.1 = none := fun p n hp => ⟨hs.extBut _ _ n (N p hp).1, (N p hp).2⟩
  rcases List.mem_append.mp hp with hp | hp
  · exact old p (ho p hp) (List.mem_append.mpr (.inl hp))
  · rcases List.mem_cons.mp hp with rfl | hp
    · exact ⟨e4, e2, e3⟩
    · exact old p (hr p hp) (List.mem_append.mpr (.inr (.tail _ hp)))
end
theorem insideN_snoc {l : List (Int × Int)} {i : Nat} {q : Int × Int} {place : Int} (h : l[i]? = some q) : insideN place (l.take (i + 1)) = insideN place (l.take i) + (if q.1 ≤ place ∧ place < q.2 then 1 else 0) := by
  unfold insideN
  rw [List.take_add_one, h, List.countP_append]
  congr 1
  simp [List.countP_cons]
theorem if_bound1 {α : Type} {a : Str} {r : Str → α} : r = fun z => if z = a then r a else r z := by
  funext z
  by_cases h : z = a
  · rw [if_pos h, h]
  · rw [if_neg h]
theorem if_one {α : Type} {a : Str} {u u2 : α} {r : Str → α} : (fun z => if z = a then u else if z = a then u2 else r z) = fun z => if z = a then u else r z := by
  funext z
  by_cases h : z = a
  · rw [if_pos h, if_pos h]
  · rw [if_neg h, if_neg h, if_neg h]
/-- between the turns of the loop over the places -/
def PlaceJ (r : Str → Option Value) (c : Addr) (base : List (Addr × Obj)) (_ : Nat) (m : Str → Option Value) (nw : List (Addr × Obj)) : Prop :=
  ∃ vi oc vc rest, m = (fun y => if y = Str.ofString "inside" then vi else r y) ∧ nw = (c, oc) :: rest ∧ oc.data = .cell vc ∧ (∀ p ∈ base, p ∈ rest) ∧ (∀ p ∈ rest, @Ne Nat p.1 c)
section
variable {w : World} {mean : ExcName → Option Value} {mg mb : Str → Option Value} {A : Around} {s : Shared} {K : Flow → Shared → Prop} {E : Value → Shared → Prop} {h₀ : Heap} {L fa : Addr} {cd : Value} {bm : Str → Option Value}
set_option maxHeartbeats 4000000 in
/-- for place in range(total) -/
theorem st19 {De Dp : Addr} {es vs : List Value} {pat : List Int} {cp : Nat} {tot ph : Int} {t2 t3 : Tok} {ve vb vl vsp vib : Option Value} {oc : Obj} {vc : Option Value} {rest : List (Addr × Obj)} {sp : List (Int × Int)} (X : (hd.heap_39 w.params).In h₀) (T : Top view (looseW view [Str.ofString "PaperError"]) mean mg mb h₀)
    (F : Fr h₀ L s.heap (fun y => if y = Str.ofString "end" then ve else if y = Str.ofString "begin" then vb else if y = Str.ofString "last" then vl else if y = Str.ofString "pattern" then some (.ref Dp) else if y = Str.ofString "ends" then some (.ref De) else if y = Str.ofString "spans" then vsp else if y = Str.ofString "is_bad" then vib else if y = Str.ofString "total" then some (.int tot t3) else if y = Str.ofString "phase" then some (.int ph t2) else bm y))
    (N : News h₀ L s.heap ((L + 1 + 1, oc) :: rest)) (hoc : oc.data = .cell vc) (hrc : ∀ p ∈ rest, @Ne Nat p.1 (L + 1 + 1)) (hD : (De, LCg.lst es) ∈ rest) (hDp : (Dp, listOf (List.toArray vs) cp) ∈ rest) (hes : All2 (IntsT rest) es sp) (hel : es.length ≤ 1000)
    (hvs : IntsAre vs pat) (hvl : vs.length ≤ 100) (hpb : ∀ x ∈ pat, 0 ≤ x ∧ x ≤ 100) (hps : 1 ≤ pat.sum) (htot : 0 ≤ tot ∧ tot < 60) (hph : 0 ≤ ph ∧ ph < 30)
    (hin : ∀ place, 0 ≤ place → place < tot → insideN place sp = if drawnF pat 0 ((place + ph).fmod pat.sum) then 1 else 0)
    (hh : A.handled = none) (hdp : A.depth + 60 < recursionLimit) (hun : A.units + 600 < cLine) (hE : PassesOwn (model PySem.Challenge.rw_nn0117_01.row.prog w) (A.deeper (lawEnv L fa cd)) (lawEnv L fa cd) E)
    (next : ∀ h' tk' vi rest' oc', Fr h₀ L h' (fun y => if y = Str.ofString "inside" then vi else if y = Str.ofString "end" then ve else if y = Str.ofString "begin" then vb else if y = Str.ofString "last" then vl else if y = Str.ofString "pattern" then some (.ref Dp) else if y = Str.ofString "ends" then some (.ref De) else if y = Str.ofString "spans" then vsp else if y = Str.ofString "is_bad" then vib else if y = Str.ofString "total" then some (.int tot t3) else if y = Str.ofString "phase" then some (.int ph t2) else bm y) →
      News h₀ L h' ((L + 1 + 1, oc') :: rest') → (∀ p ∈ rest, p ∈ rest') → K .next { s with heap := h', toks := tk' }) :
    wpAny (model PySem.Challenge.rw_nn0117_01.row.prog w) (A.deeper (lawEnv L fa cd)) (exec (lawStmt 19) (lawEnv L fa cd)) K E s := by
  (revert X; k_fill; intro X)
  obtain ⟨_, dp, fr, gd, un⟩ := A
  obtain rfl : _ = none := hh
  unfold lawStmt lawTail lawEnv lawParts PySem.Challenge.pw_nn0117_01
  dsimp only [List.drop]
  try k_fold
  have mk4 : Halt (4 = 4) := rfl
  refine For_invT h₀ ?_ (by intro _; rfl) hE
  k_steps
  rename IsRange _ _ _ _ _ _ _ _ => hR
  rename Fr _ _ _ _ => F9
  rename News _ _ _ _ => N9
  obtain ⟨n, rfl⟩ : ∃ n : Nat, tot = n := ⟨tot.toNat, by omega⟩
  refine Halt.mk (for_rangeT (PlaceJ (fun y => if y = Str.ofString "end" then ve else if y = Str.ofString "begin" then vb else if y = Str.ofString "last" then vl else if y = Str.ofString "pattern" then some (.ref Dp) else if y = Str.ofString "ends" then some (.ref De) else if y = Str.ofString "spans" then vsp else if y = Str.ofString "is_bad" then vib else if y = Str.ofString "total" then some (.int n t3) else if y = Str.ofString "phase" then some (.int ph t2) else bm y) (L + 1 + 1) rest) rfl F9 N9 hR (by omega) ⟨_, oc, vc, rest, if_bound1, rfl, hoc, fun _ h => h, hrc⟩ ?_ ?_)
  · rintro I i tki m₁ news₁ s₁ own hi9 ⟨vi, oc1, vc1, rest1, rfl, rfl, hoc1, hb1, hr1⟩ hown ⟨oi9, hoi9⟩ hoff F2 N2
    have hIc : @Ne Nat (L + 1 + 1) I := fun e => hoff _ (.head _) (List.mem_singleton.mpr e)
    refine assign_cell F2 N2 hoc1 (fun p hp e => hIc (e.symm.trans (hown p hp))) hr1 (by rfl) (by rfl) (by rfl) fun h3 o3 ho3 F3 N3 => ?_
    have N4 : News h₀ L h3 ((L + 1 + 1, o3) :: (own ++ rest1)) := fun p hp => N3 p (by
      rcases List.mem_cons.mp hp with rfl | hp
      · exact List.mem_append.mpr (.inr (.head _))
      · rcases List.mem_append.mp hp with hp | hp
        · exact List.mem_append.mpr (.inl hp)
        · exact List.mem_append.mpr (.inr (.tail _ hp)))
    have hin9 := hin i (by omega) (by omega)
    have hi0 : 0 ≤ (i : Int) ∧ (i : Int) < 60 := by omega
    have sub9 : ∀ p ∈ rest, p ∈ (L + 1 + 1, o3) :: (own ++ rest1) := fun p hp => .tail _ (List.mem_append.mpr (.inr (hb1 p hp)))
    clear F9 N9 F2 N2 N3 mk4 hE
    have mk2 : Halt (2 = 2) := rfl
    show wpAny _ _ _ _ _ _
    k_steps
    refine Halt.mk (Assign_PT (h₀ := h₀) (m := fun y => if y = Str.ofString "inside" then vi else if y = Str.ofString "end" then ve else if y = Str.ofString "begin" then vb else if y = Str.ofString "last" then vl else if y = Str.ofString "pattern" then some (.ref Dp) else if y = Str.ofString "ends" then some (.ref De) else if y = Str.ofString "spans" then vsp else if y = Str.ofString "is_bad" then vib else if y = Str.ofString "total" then some (.int n t3) else if y = Str.ofString "phase" then some (.int ph t2) else bm y) (by rfl) (by with_unfolding_all rfl) (by with_unfolding_all rfl) (by decide) (by rfl) (by decide) (by rfl) (by rfl) (by decide) (by rfl) (by rfl) ?_)
    refine eval_ref (D := De) ?_ ?_
    · k_steps
      exact ⟨rfl, rfl⟩
    refine ⟨De, es.toArray, _, fun j ys => ys.length = insideN i (sp.take j), rfl, rfl, by rw [List.size_toArray, sizeLine_eq]; omega, F3, N4, .inr ⟨_, sub9 _ hD, rfl, _, rfl⟩, rfl, ?_, ?_⟩
    · intro j ys v hv hJ
      obtain ⟨q, hq, t, k1, k2, rfl, hm⟩ := hes.get (i := j) (a := v) (by simpa using hv)
      refine ⟨t, _, .int q.1 k1, .int q.2 k2, _, rfl, sub9 _ hm, rfl, rfl, ?_⟩
      intro I2 oI C oC D2 m₂ h4 tk4 E' hC hn1 hn2 F4 N5
      have hcell : h4.IsCell (L + 1 + 1) (some (.int i tki)) := ⟨o3, (N5 _ (.tail _ (.tail _ (.tail _ (.head _))))).1, ho3⟩
      have e9 := insideN_snoc (place := i) hq
      rw [← hJ] at e9
      clear F3 N4
      show wpAny _ _ _ _ _ _
      k_steps
      · show (ys ++ [_]).length = insideN i (sp.take (j + 1))
        rw [e9, if_pos ⟨by assumption, by assumption⟩, List.length_append]
        rfl
      · show ys.length = insideN i (sp.take (j + 1))
        rw [e9, if_neg fun z => absurd z.2 (by assumption)]
        rfl
      · show ys.length = insideN i (sp.take (j + 1))
        rw [e9, if_neg fun z => absurd z.1 (by assumption)]
        rfl
    · intro ys hJ D2 h4 tk4 F4 N5 hne
      rw [List.size_toArray, hes.length, List.take_length] at hJ
      have hl2 : h4.IsList D2 ys.toArray := ⟨_, (N5 _ (.head _)).1, rfl, _, rfl⟩
      rw [if_one] at F4
      have hyl : ys.length ≤ 1 := by
        rw [hJ, hin9]
        split <;> decide
      clear F3 N4
      k_steps
      refine Halt.mk (k_drawn F4 X T N5 ⟨_, (N5 _ (.tail _ (sub9 _ hDp))).1, rfl, _, rfl⟩ hvs hvl hpb hps (by omega) rfl (by ktr_room) (by ktr_units) ?_)
      intro h5 tk5 F5 N6
      rw [hin9] at hJ
      have hID : @Ne Nat D2 I := fun e => hne _ (.tail _ (List.mem_append.mpr (.inl hoi9))) e.symm
      have fin9 : ∀ h6 tk6, Fr h₀ L h6 (fun z => if z = Str.ofString "inside" then some (.ref D2) else if z = Str.ofString "end" then ve else if z = Str.ofString "begin" then vb else if z = Str.ofString "last" then vl else if z = Str.ofString "pattern" then some (.ref Dp) else if z = Str.ofString "ends" then some (.ref De) else if z = Str.ofString "spans" then vsp else if z = Str.ofString "is_bad" then vib else if z = Str.ofString "total" then some (.int n t3) else if z = Str.ofString "phase" then some (.int ph t2) else bm z) →
          News h₀ L h6 ((D2, LCg.lst ys) :: (L + 1 + 1, o3) :: (own ++ rest1)) → LoopStepU h₀ L [I] own (PlaceJ (fun y => if y = Str.ofString "end" then ve else if y = Str.ofString "begin" then vb else if y = Str.ofString "last" then vl else if y = Str.ofString "pattern" then some (.ref Dp) else if y = Str.ofString "ends" then some (.ref De) else if y = Str.ofString "spans" then vsp else if y = Str.ofString "is_bad" then vib else if y = Str.ofString "total" then some (.int n t3) else if y = Str.ofString "phase" then some (.int ph t2) else bm y) (L + 1 + 1) rest (i + 1)) s₁ .next { s₁ with heap := h6, toks := tk6 } := fun h6 tk6 F6 N7 => by
        refine LoopStepU.intro (news₂ := (L + 1 + 1, o3) :: (D2, LCg.lst ys) :: rest1) F6 (fun p hp => N7 p ?_) (fun p hp => ?_) ⟨_, _, _, _, rfl, rfl, ho3, fun p hp => .tail _ (hb1 p hp), fun p hp => ?_⟩
        · rcases List.mem_append.mp hp with hp | hp
          · exact .tail _ (.tail _ (List.mem_append.mpr (.inl hp)))
          · rcases List.mem_cons.mp hp with rfl | hp
            · exact .tail _ (.head _)
            · rcases List.mem_cons.mp hp with rfl | hp
              · exact .head _
              · exact .tail _ (.tail _ (List.mem_append.mpr (.inr hp)))
        · rcases List.mem_cons.mp hp with rfl | hp
          · exact fun z => hIc (List.mem_singleton.mp z)
          · rcases List.mem_cons.mp hp with rfl | hp
            · exact fun z => hID (List.mem_singleton.mp z)
            · exact hoff p (.tail _ hp)
        · rcases List.mem_cons.mp hp with rfl | hp
          · exact fun e => hne _ (.head _) e.symm
          · exact hr1 p hp
      clear F4 N5 hoff hown hoi9 hID hne hr1 hb1
      cases hd : drawnF pat 0 ((i + ph).fmod pat.sum)
      · rw [hd] at hJ
        replace hJ : ys.length = 0 := hJ
        k_steps
        · exact absurd (congrArg Nat.cast hJ) (by assumption)
        · exact fin9 _ _ F5 N6
      · rw [hd] at hJ
        replace hJ : ys.length = 1 := hJ
        k_steps
        · exact absurd (congrArg Nat.cast hJ) (by assumption)
        · exact fin9 _ _ F5 N6
  · rintro m₁ news₁ h2 tk2 ⟨vi, oc1, vc1, rest1, rfl, rfl, hoc1, hb1, hr1⟩ F2 N2
    exact next _ _ _ _ _ F2 N2 hb1
end

-- p36_last
/-- the spans without length among the first -/
def LoneJ (sp : List (Int × Int)) (i : Nat) (ys : List Value) : Prop := IntsAre ys (loneOf (sp.take i))
theorem loneOf_snoc {l : List (Int × Int)} {i : Nat} {q : Int × Int} (h : l[i]? = some q) : loneOf (l.take (i + 1)) = loneOf (l.take i) ++ (if q.1 = q.2 then [q.1] else []) := by
  unfold loneOf
  rw [List.take_add_one, h]
  simp only [Option.toList_some, List.filter_append, List.map_append]
  congr 1
  by_cases e : q.1 = q.2
  · simp [e]
  · simp [e]
section
variable {w : World} {mean : ExcName → Option Value} {mg mb : Str → Option Value} {A : Around} {s : Shared} {K : Flow → Shared → Prop} {E : Value → Shared → Prop} {h₀ : Heap} {L fa : Addr} {cd : Value} {bm : Str → Option Value}
set_option maxHeartbeats 4000000 in
/-- return [..] == _law_lone(..) -/
theorem st20 {De Dp : Addr} {es vs : List Value} {pat : List Int} {cp : Nat} {tot ph : Int} {t2 t3 : Tok} {vi ve vb vl vsp vib : Option Value} {rest : List (Addr × Obj)} {sp : List (Int × Int)} (X : (hd.heap_39 w.params).In h₀) (T : Top view (looseW view [Str.ofString "PaperError"]) mean mg mb h₀)
    (F : Fr h₀ L s.heap (fun y => if y = Str.ofString "inside" then vi else if y = Str.ofString "end" then ve else if y = Str.ofString "begin" then vb else if y = Str.ofString "last" then vl else if y = Str.ofString "pattern" then some (.ref Dp) else if y = Str.ofString "ends" then some (.ref De) else if y = Str.ofString "spans" then vsp else if y = Str.ofString "is_bad" then vib else if y = Str.ofString "total" then some (.int tot t3) else if y = Str.ofString "phase" then some (.int ph t2) else bm y))
    (N : News h₀ L s.heap rest) (hD : (De, LCg.lst es) ∈ rest) (hDp : (Dp, listOf (List.toArray vs) cp) ∈ rest) (hes : All2 (IntsT rest) es sp) (hel : es.length ≤ 1000)
    (hvs : IntsAre vs pat) (hvl : vs.length ≤ 100) (hne : 1 ≤ vs.length) (hlone : loneR pat tot 401 (-ph) 0 [] = some (loneOf sp))
    (hh : A.handled = none) (hdp : A.depth + 60 < recursionLimit) (hun : A.units + 600 < cLine)
    (ret : ∀ h' tk' m', Fr h₀ L h' m' → K (.ret (.bool true)) { s with heap := h', toks := tk' }) :
    wpAny (model PySem.Challenge.rw_nn0117_01.row.prog w) (A.deeper (lawEnv L fa cd)) (exec (lawStmt 20) (lawEnv L fa cd)) K E s := by
  (revert X; k_fill; intro X)
  obtain ⟨_, dp, fr, gd, un⟩ := A
  obtain rfl : _ = none := hh
  unfold lawStmt lawTail lawEnv lawParts PySem.Challenge.pw_nn0117_01
  dsimp only [List.drop]
  try k_fold
  have mk8 : Halt (8 = 8) := rfl
  k_steps
  refine Halt.mk (ListComp_PT (h₀ := h₀) (L := L) (m := fun y => if y = Str.ofString "inside" then vi else if y = Str.ofString "end" then ve else if y = Str.ofString "begin" then vb else if y = Str.ofString "last" then vl else if y = Str.ofString "pattern" then some (.ref Dp) else if y = Str.ofString "ends" then some (.ref De) else if y = Str.ofString "spans" then vsp else if y = Str.ofString "is_bad" then vib else if y = Str.ofString "total" then some (.int tot t3) else if y = Str.ofString "phase" then some (.int ph t2) else bm y) (by with_unfolding_all rfl) (by decide) (by rfl) (by decide) (by rfl) (by rfl) (by decide) ?_)
  refine eval_ref (D := De) ?_ ?_
  · k_steps
    exact ⟨rfl, rfl⟩
  refine ⟨De, es.toArray, rest, LoneJ sp, rfl, rfl, by rw [List.size_toArray, sizeLine_eq]; omega, F, N, .inr ⟨_, hD, rfl, _, rfl⟩, .nil, ?_, ?_⟩
  · intro j ys v hv hJ
    obtain ⟨q, hq, t, k1, k2, rfl, hm⟩ := hes.get (i := j) (a := v) (by simpa using hv)
    refine ⟨t, _, .int q.1 k1, .int q.2 k2, _, rfl, hm, rfl, rfl, ?_⟩
    intro I2 oI C oC D2 m₂ h4 tk4 E' hC hn1 hn2 F4 N5
    have e9 := loneOf_snoc hq
    clear F N
    show wpAny _ _ _ _ _ _
    k_steps
    · show IntsAre (ys ++ [_]) (loneOf (sp.take (j + 1)))
      rw [e9, if_pos (by assumption)]
      exact IntsAre.append hJ (.cons _ _ .nil)
    · show IntsAre ys (loneOf (sp.take (j + 1)))
      rw [e9, if_neg (by assumption), List.append_nil]
      exact hJ
  · intro ys hJ D2 h4 tk4 F4 N5 _
    replace hJ : IntsAre ys (loneOf (sp.take es.toArray.size)) := hJ
    rw [List.size_toArray, hes.length, List.take_length] at hJ
    clear F N mk8
    k_steps
    refine Halt.mk (k_lone 401 F4 X T N5 ⟨_, (N5 _ (.tail _ hDp)).1, rfl, _, rfl⟩ hvs hvl hne (by decide) hlone rfl (by ktr_room) (by ktr_units) ?_)
    intro r items c h5 tk5 F5 N6 hit
    clear F4 N5
    refine eq_intsK (vs := ys) (us := items) ⟨_, (N6 _ (.tail _ (.head _))).1, rfl, _, rfl⟩ hJ ⟨_, (N6 _ (.head _)).1, rfl, _, rfl⟩ hit (by ktr_units) ?_
    rw [decide_eq_true rfl]
    exact ret _ _ _ F5
end

-- p37_tail
theorem tail_cons {n : Nat} (h : n < 21) : lawTail n = lawStmt n :: lawTail (n + 1) := by
  have hl : lawParts.1.length = 21 := rfl
  unfold lawStmt lawTail
  rw [List.drop_eq_getElem_cons (by omega)]
theorem step_tail {w : World} {A : Around} {env : Env} {K : Flow → Shared → Prop} {E : Value → Shared → Prop} {s : Shared} {n : Nat} (h : n < 21)
    (x : wpAny (model PySem.Challenge.rw_nn0117_01.row.prog w) A (exec (lawStmt n) env) (fun f s' => match f with | .next => wpAny (model PySem.Challenge.rw_nn0117_01.row.prog w) A (execs (lawTail (n + 1)) env) K E s' | f => K f s') E s) :
    wpAny (model PySem.Challenge.rw_nn0117_01.row.prog w) A (execs (lawTail n) env) K E s := by
  rw [tail_cons h]
  exact wpAny_execs_cons x
/-- the ledger with one cell ahead, and what is no cell behind it -/
theorem news_cell {h₀ h : Heap} {L c : Addr} {oq : Obj} {v : Option Value} {news : List (Addr × Obj)} (N : News h₀ L h news) (hc : (c, oq) ∈ news) (hd : oq.data = .cell v) :
    ∃ rest, News h₀ L h ((c, oq) :: rest) ∧ (∀ p ∈ rest, @Ne Nat p.1 c) ∧ (∀ p ∈ news, (∀ v', p.2.data ≠ .cell v') → p ∈ rest) := by
  refine ⟨news.filter fun p => decide (p.1 ≠ c), fun p hp => ?_, fun p hp => ?_, fun p hp hn => List.mem_filter.mpr ⟨hp, decide_eq_true fun e => ?_⟩⟩
  · rcases List.mem_cons.mp hp with rfl | hp
    · exact N _ hc
    · exact N p (List.mem_filter.mp hp).1
  · exact of_decide_eq_true (List.mem_filter.mp hp).2
  · have h1 := (N p hp).1
    rw [e, (N _ hc).1] at h1
    exact hn v (by rw [← Option.some.inj h1]; exact hd)
theorem bad_false {b : Bool} {xs : List Int} {ph : Int} (h : b = true ↔ BadS xs ph) (hn : ¬ BadS xs ph) : b = false := by
  cases b
  · rfl
  · exact absurd (h.mp rfl) hn
section
variable {w : World} {mean : ExcName → Option Value} {mg mb : Str → Option Value} {A : Around} {s : Shared} {K : Flow → Shared → Prop} {E : Value → Shared → Prop} {h₀ : Heap} {L fa : Addr} {cd : Value} {bm : Str → Option Value}
/-- the law from its sixth statement on -/
theorem law_tail {K0 : Flow → Shared → Prop} {odd cnt ph tot : Int} {t0 t1 t2 t3 : Tok} {D P C : Addr} {ys cs : List Value} {xs ms : List Int} {c0 c : Nat} {g st pl : Int} {tg ts tp : Tok} {oq op : Obj} {vq : Option Value} {fs : List Env} (X : (hd.heap_39 w.params).In h₀) (T : Top view (looseW view [Str.ofString "PaperError"]) mean mg mb h₀)
    (F : Fr h₀ L s.heap (fun y => if y = Str.ofString "total" then some (.int tot t3) else if y = Str.ofString "phase" then some (.int ph t2) else if y = Str.ofString "steps" then some (.ref D) else if y = Str.ofString "odd" then some (.int odd t1) else if y = Str.ofString "count" then some (.int cnt t0) else bm y))
    (hbm : bm (Str.ofString "top") = none)
    (N : News h₀ L s.heap [(D, listOf ys.toArray c0), (P, PoolO C g tg st ts pl tp), (C, listOf cs.toArray c), (L + 1 + 1, oq), (L + 1, op)]) (hop : op.data = Data.cell (some (.ref P))) (hoq : oq.data = Data.cell vq)
    (hPD : @Ne Nat P D) (hCD : @Ne Nat C D) (d1 : @Ne Nat (L + 1 + 1) D) (d2 : @Ne Nat (L + 1) D) (hCP : @Ne Nat C P) (q1 : @Ne Nat (L + 1 + 1) P) (q2 : @Ne Nat (L + 1) P) (hms : IntsAre cs ms) (hcs : cs.length ≤ 1000) (hg : 0 ≤ g) (hst : 0 ≤ st ∧ st < 2147483647) (hpl : 0 ≤ pl ∧ pl < 900)
    (hxs : IntsAre ys xs) (hxl : (xs.length : Int) = cnt) (hc4 : cnt ≤ 4) (hxb : ∀ x ∈ xs, (0 : Int) ≤ x ∧ x ≤ 19) (hph : 0 ≤ ph ∧ ph < 30) (htot : 0 ≤ tot ∧ tot < 60)
    (hh : A.handled = none) (hfr : A.frames = some fs) (hFF : h₀.FunFrames h₀ fs) (hdp : A.depth + 60 < recursionLimit) (hun : A.units + 600 < cLine) (hE : PassesOwn (model PySem.Challenge.rw_nn0117_01.row.prog w) (A.deeper (lawEnv L fa cd)) (lawEnv L fa cd) E)
    (ret : ∀ h' tk' m', Fr h₀ L h' m' → K (.ret (.bool true)) { s with heap := h', toks := tk' }) (rest : ∀ s', wpAny (model PySem.Challenge.rw_nn0117_01.row.prog w) (A.deeper (lawEnv L fa cd)) (execs (lawTail 7) (lawEnv L fa cd)) K E s' → K0 .next s') (ret0 : ∀ h' tk' m', Fr h₀ L h' m' → K0 (.ret (.bool true)) { s with heap := h', toks := tk' }) :
    wpAny (model PySem.Challenge.rw_nn0117_01.row.prog w) (A.deeper (lawEnv L fa cd)) (exec (lawStmt 6) (lawEnv L fa cd)) K0 E s := by
  refine st6 X T F N hh hfr hFF hdp hun ?_ ret0
  intro _ h1 tk1 F1 N1
  clear F N
  refine rest _ ?_
  refine step_tail (by decide) (st7 X T F1 N1 hop hPD hCD d1 d2 hCP q1 q2 hms hcs hg hst hpl hxs hxl hc4 (fun x hx => ⟨by have := (hxb x hx).1; omega, (hxb x hx).2⟩) hh hdp hun ?_)
  clear F1 N1 hxs hxl hxb hg hst hpl
  intro h2 tk2 ys2 xs2 g2 tg2 st2 ts2 pl2 tp2 hxs hxl hxb hg hst hpl F2 N2
  show wpAny _ _ (execs (lawTail 8) _) _ _ _
  refine step_tail (by decide) (st8 X T F2 N2 hph hh hdp hun ?_)
  clear F2 hph
  intro h3 tk3 ph3 t2' hph F3 N3
  show wpAny _ _ (execs (lawTail 9) _) _ _ _
  refine step_tail (by decide) (st9 X T F3 N3 hxs (by omega) hxb (by
    intro p hp
    rcases List.mem_cons.mp hp with rfl | hp
    · exact hPD
    · rcases List.mem_cons.mp hp with rfl | hp
      · exact hCD
      · rcases List.mem_cons.mp hp with rfl | hp
        · exact d1
        · rw [List.mem_singleton.mp hp]
          exact d2) hh hdp hun ?_)
  clear F3 N2 N3 hxs hxb hPD hCD d1 d2
  intro h4 tk4 D4 ys4 xs4 c4 hxs hl4 hxb hne F4 N4
  show wpAny _ _ (execs (lawTail 10) _) _ _ _
  refine step_tail (by decide) (st10 X T F4 N4 hxs (by omega) hc4 hh hdp hun ?_)
  clear F4 N4
  intro h5 tk5 b hb F5 N5
  show wpAny _ _ (execs (lawTail 11) _) _ _ _
  have hx4 : xs4.length ≤ 4 := by omega
  refine step_tail (by decide) (st11 X T F5 (by rw [if_neg (by decide), if_neg (by decide)]; exact hbm) N5 hop (hne _ (.head _)) hCP q1 q2 hms hcs hg hst (by omega) hxs hx4 hxb hph htot hb hh hfr hFF hdp hun ?_ ret)
  clear F5 N5 hne
  intro sp r items c' h6 tk6 rest nb hc F6 N6 hD hQ hner hsp
  show wpAny _ _ (execs (lawTail 12) _) _ _ _
  refine step_tail (by decide) (st12 X T F6 N6 (bad_false hb nb) hh hdp hun ?_)
  clear F6 N6
  intro h7 tk7 F7 N7
  show wpAny _ _ (execs (lawTail 13) _) _ _ _
  have hil : items.length ≤ 1000 := by
    rw [hsp.length]
    rcases hc with ⟨_, rfl⟩ | ⟨_, _, rfl⟩ | ⟨_, _, e⟩
    · exact Nat.zero_le _
    · exact (by decide : 1 ≤ 1000)
    · have := runS_len _ _ _ _ _ e
      rw [List.length_nil] at this
      omega
  refine step_tail (by decide) (st13 X T F7 N7 hsp hil hh hdp hun ?_)
  clear F7 N7
  intro h8 tk8 De es rest8 hes sub8 hne8 F8 N8
  show wpAny _ _ (execs (lawTail 14) _) _ _ _
  refine step_tail (by decide) (st14 X T F8 N8 (sub8 _ (.head _)) (hsp.imp fun _ _ z => z.mono fun p hp => sub8 p (.tail _ hp)) hes hil hh hdp hun ?_)
  have hel : es.length ≤ 1000 := by rw [hes.length, ← hsp.length]; exact hil
  clear F8 N8 hsp
  intro h9 tk9 F9 N9
  show wpAny _ _ (execs (lawTail 15) _) _ _ _
  refine step_tail (by decide) (st15 X T F9 N9 (sub8 _ (.tail _ hD)) hxs hx4 hes htot (hc.imp_right fun z => z.imp_right fun z => ⟨z.1, z.2.1⟩) hh hdp hun ?_ ret)
  clear F9 N9
  intro hnil h10 tk10 F10 N10
  obtain ⟨hx0, hsum, hph0⟩ := good_facts nb hnil
  have hph1 : 0 ≤ ph3 ∧ ph3 ≤ 29 := ⟨hph0, by omega⟩
  have hplain : okL tot 0 sp ∧ (∀ place, 0 ≤ place → place < tot → insideN place sp = if drawnF (patOf xs4) 0 ((place + ph3).fmod (patOf xs4).sum) then 1 else 0) ∧ loneR (patOf xs4) tot 401 (-ph3) 0 [] = some (loneOf sp) := by
    rcases hc with ⟨h, rfl⟩ | ⟨_, h, _⟩ | ⟨h, _, e⟩
    · exact ⟨trivial, fun place a b => absurd (Int.lt_of_lt_of_le b h) (Int.not_lt.mpr a), plain0 hx4 hx0 hsum hph1 h⟩
    · exact absurd h hnil
    · obtain ⟨sp', e', r1, r2, r3⟩ := plain hx4 hx0 hsum hph1 ⟨h, by omega⟩
      rw [e] at e'
      cases e'
      exact ⟨r1, r2, r3⟩
  obtain ⟨hok, hin, hlone⟩ := hplain
  show wpAny _ _ (execs (lawTail 16) _) _ _ _
  refine step_tail (by decide) (st16 X T F10 N10 (.tail _ (sub8 _ (.tail _ hD))) hxs hx4 hh hdp hun ?_)
  clear F10 N10
  intro h11 tk11 Dp vs cp news11 hvs hDp sub11 F11 N11
  show wpAny _ _ (execs (lawTail 17) _) _ _ _
  refine step_tail (by decide) (st17 F11 N11 ?_)
  clear F11 N11
  intro h12 tk12 tl F12 N12
  show wpAny _ _ (execs (lawTail 18) _) _ _ _
  refine step_tail (by decide) (st18 X T F12 N12 (sub11 _ (.head _)) (hes.imp fun _ _ z => z.mono fun p hp => sub11 p (.tail _ hp)) hok hh hdp hun hE ?_)
  clear F12 N12
  intro h13 tk13 ve vb vl F13 N13
  obtain ⟨rest13, N14, hr14, sub14⟩ := news_cell N13 (sub11 _ (.tail _ (sub8 _ (.tail _ hQ)))) hoq
  have hvl : vs.length ≤ 8 := by
    rw [hvs.length]
    unfold patOf
    split
    · omega
    · rw [List.length_append]
      omega
  have hes14 : All2 (IntsT rest13) es sp := hes.imp fun _ _ z => by
    obtain ⟨t, k1, k2, e, hm⟩ := z
    exact ⟨t, k1, k2, e, sub14 _ (sub11 _ (.tail _ hm)) nofun⟩
  have hDp14 := sub14 _ hDp nofun
  have hDe14 := sub14 _ (sub11 _ (.head _)) nofun
  show wpAny _ _ (execs (lawTail 19) _) _ _ _
  refine step_tail (by decide) (st19 X T F13 N14 hoq hr14 hDe14 hDp14 hes14 hel hvs (by omega) (fun x hx => ⟨hx0 x (patOf_mem hx), by have := (hxb x (patOf_mem hx)).2; omega⟩) (patOf_sum hsum) htot ⟨hph0, by omega⟩ hin hh hdp hun hE ?_)
  clear F13 N13 N14
  intro h14 tk14 vi rest14 oc' F14 N14 sub15
  have hne1 : 1 ≤ vs.length := by
    rw [hvs.length]
    have h1 : 0 < xs4.length := List.length_pos_iff.mpr hnil
    unfold patOf
    split
    · omega
    · rw [List.length_append]
      omega
  show wpAny _ _ (execs (lawTail 20) _) _ _ _
  exact step_tail (by decide) (st20 X T F14 N14 (.tail _ (sub15 _ hDe14)) (.tail _ (sub15 _ hDp14)) (hes14.imp fun _ _ z => z.mono fun p hp => .tail _ (sub15 p hp)) hel hvs (by omega) hne1 hlone hh hdp hun ret)
end

-- p40_law
set_option maxHeartbeats 8000000 in
theorem law_holds : PySem.Challenge.rw_nn0117_01.Holds := hd (by
  k_go0
  all_goals try k_fold
  have mk2 : Halt (2 = 2) := rfl
  have mk5 : Halt (5 = 5) := rfl
  have mk6 : Halt (6 = 6) := rfl
  k_steps
  have hlen9 := IntsAre.length (by assumption)
  refine Halt.mk (k_box (by k_asm) (by k_asm) (by k_asm) (by k_asm) (by is_list) (by with_reducible assumption) (by omega) rfl (by ktr_room) (by ktr_units) ?_)
  intro P C cs ms c g tg st ts tp h1 tk1 F1 N1 hCP hPn hms hcs hg hst
  have mk7 : Halt (7 = 7) := rfl
  k_steps
  have q1 := hPn _ (.head _)
  have q2 := hPn _ (.tail _ (.head _))
  dsimp only at q1 q2
  rename News _ _ _ _ => Nk
  rename Fr _ _ _ _ => Fk
  simp only [List.cons_append, List.nil_append] at Nk
  refine Halt.mk ?_
  clear mk7 hPn
  k_steps
  refine Halt.mk (Assign_range (by k_asm) (by with_reducible assumption) rfl (by rfl) (by with_unfolding_all rfl) (by rfl) (by decide) (by rfl) (by decide) (by rfl) (by rfl) (by rfl) (by k_asm) (by intro _; rfl) ?_ ?_)
  · k_steps
    exact ⟨_, _, _, _, _, _, rfl, rfl, by assumption, by assumption, by assumption⟩
  intro g0 tk0
  refine compRest_ind (StepsJ P C _) ?_ ?_ _ 0 [] _ (Nat.zero_add _) ⟨[], _, _, _, _, _, _, .nil, rfl, nofun, by with_reducible assumption, by with_reducible assumption, by omega, rfl⟩
  · rintro ys nw ⟨xs, g9, tg9, st9, ts9, pl9, tp9, hxs, hyl, hxb, hg9, hst9, hpl9, rfl⟩
    intro D h2 tk2 F2 N2 o2
    have n3 : @Ne Nat P D := o2.1
    have hpl8 : 0 ≤ pl9 ∧ pl9 < 900 := by omega
    k_steps
    rename News _ _ _ _ => N8
    rename Fr _ _ _ _ => F8
    have hyl2 := hxs.length
    refine Halt.mk (law_tail (fs := []) (by with_reducible assumption) (by with_reducible assumption) F8 (by rfl) N8 (by with_reducible assumption) (by with_reducible assumption) n3 o2.2.1 o2.2.2.1 o2.2.2.2.1 hCP q1 q2 hms hcs hg' hst' (by omega) hxs (by omega) (by omega) hxb (by with_reducible assumption) hr' rfl rfl trivial (by ktr_room) (by ktr_units) (by passes_own) ?_ (fun _ h => h) ?_)
    all_goals
      intro h9 tk9 m9 F9
      clear F8 N8 hxs hyl hxb hg9 hst9 hpl9 o2 hpl8 hr' hg' hst' hyl2
      k_steps
  · rintro i ys nw hi ⟨xs, g9, tg9, st9, ts9, pl9, tp9, hxs, hyl, hxb, hg9, hst9, hpl9, rfl⟩ v I oI C9 oC D m9 h2 tk2 E2 ⟨t9, rfl⟩ hC9 hx9 F2 N2 off2 ne2
    obtain ⟨n1, n2, n3⟩ := off2.mem _ (.head _)
    have hpl8 : 0 ≤ pl9 ∧ pl9 < 900 := by omega
    replace n1 : @Ne Nat P I := n1
    replace n2 : @Ne Nat P C9 := n2
    replace n3 : @Ne Nat P D := n3
    clear mk5 mk6
    k_steps
    · exact LCg.CompEnd.intro F' N' _ (fun p hp => hp) off2 trivial (StepsJ.next hxs hyl hxb hpl9 hr' hg' hst' (.inr rfl))
    · exact LCg.CompEnd.intro F' N' _ (fun p hp => hp) off2 trivial (StepsJ.next hxs hyl hxb hpl9 (show (0 : Int) ≤ 0 ∧ (0 : Int) < 20 by decide) hg' hst' (.inl rfl)))

end Nn

theorem PySem.Challenge.cw_nn0117_01_holds : PySem.Challenge.rw_nn0117_01.Holds := by
  exact Nn.law_holds
