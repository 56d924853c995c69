import PyProof.Rows.All
import Wide.All
import OpenK.AllK
import Wide.FinOn
import PySem.Challenge.RW_xm0819_01
open PySem PySem.W PyProof.Rows
set_option Elab.async false
set_option maxRecDepth 100000
set_option maxHeartbeats 8000000
namespace Mine
-- the head: the whole top in one look by the kernel, over the library's twins (the kit's own head in pieces makes an object file of 16 MB)
theorem left_of_boot {p : Program} {qf : Program → Program} {loose : List Str} {Xt : Program → Shared → Bool} {α : Type} {Yf : Shared → α} {Ya : World → α} {N : Nat} (e : opening p = plainProg p.main.scope.names) (hN : Nat.ble 600 N = true) (f : ∀ s, fenceModules? p s = some s)
    (n0 : Nat) (ann : Option Value) (z : ∀ w : World, ((boot_heap w.params).isNs mainGlobals, (boot_heap w.params).objs.size, (boot_heap w.params).nsMap mainGlobals "__annotations__") = (true, n0, ann))
    {tb} (et : treeTable = tb) {TR} (er : @topRun = TR) {OS} (eo : @openSeen = OS) {p'} (ep : p = p')
    (h : ∀ w, (fun os => (((TR tb p' w n0 ann N ⟨boot_heap w.params, Array.mk [], boot_drawn, boot_toks, os⟩ (topStub p')).bind fun s₁ => match staticsOk (importedModules p'.main.body) (boot_heap w.params) s₁.heap && namesBound p' s₁.heap && gensDone s₁ && laidKept (boot_heap w.params) s₁.heap with
      | true => some s₁
      | false => none).map (fun s => (OS (qf p') loose (importedModules p'.main.body) (Xt p') true s, Yf s)))) = fun _ => some (openGood (qf p') loose, Ya w)) : LeftO p (qf p) loose (Xt p) Yf Ya N := fun w => by
  subst et
  subst er
  subst eo
  subst ep
  obtain ⟨⟨h', gs, d, k, os⟩, e1, e2⟩ := Option.map_eq_some_iff.mp (boot_open e hN f w)
  obtain ⟨rfl, rfl, rfl, rfl⟩ : h' = boot_heap w.params ∧ gs = Array.mk [] ∧ d = boot_drawn ∧ k = boot_toks := by simpa using e2
  obtain ⟨z1, z2, z3⟩ : _ ∧ _ ∧ _ := by simpa only [Prod.mk.injEq] using z w
  unfold openEnds
  rw [e1]
  have t := congrFun (h w) os
  unfold topFrom
  dsimp only [Option.bind_some]
  rw [z1, z2, z3]
  exact t
noncomputable def hd.view_39 : Program := view PySem.Challenge.pw_xm0819_01 [0, 2, 3, 4, 6, 7, 8, 9, 10, 11, 12, 14, 15, 16, 18, 19, 20]
local macro_rules | `(tactic| o_head $H) => `(tactic| refine holds_open (q := hd.view_39) (loose := []) (Xt := fun s => xlAt hd.view_39 [] s && recOk (RowW.records (OpenRow.toRowW (OpenLaw.row PySem.Challenge.rw_xm0819_01))) s) (XP := XL hd.view_39 []) (Yf := Hook.obs $H) (Ya := Hook.val $H) (YP := Hook.says $H) (N := 2842)
    (left_of_boot (p := PySem.Challenge.pw_xm0819_01) (qf := fun p => view p [0, 2, 3, 4, 6, 7, 8, 9, 10, 11, 12, 14, 15, 16, 18, 19, 20]) (Xt := fun p s => xlAt (view p [0, 2, 3, 4, 6, 7, 8, 9, 10, 11, 12, 14, 15, 16, 18, 19, 20]) [] s && recOk (RowW.records (OpenRow.toRowW (OpenLaw.row PySem.Challenge.rw_xm0819_01))) s) (by rfl) (by rfl) (fun s => by rfl) 11 (some (.ref 6)) (fun w => by kernel_rfl) PySem.W.Fast.te14364793385576792824 PySem.W.Fast.te14082659384304107361 PySem.W.Fast.te4187177175401517315 $(Lean.mkIdent `PySem.W.Fast.te4303504967938296543) (fun w => by kernel_rfl))
    (Hook.of $H) (Hook.keeps $H) (fun s e => xl_of s (Bool.and_eq_true_iff.mp e).1) XL.keeps (by rfl) (by rfl) (by rfl) (fun s e => recFacts_of (Bool.and_eq_true_iff.mp e).2) (by rfl) (by first | assumption | decide +kernel) (by decide +kernel) ⟨rfl, rfl, rfl, rfl, rfl, by decide +kernel⟩ ?$(Lean.mkIdent `hw) ?$(Lean.mkIdent `hc))

open_top hd for PySem.Challenge.rw_xm0819_01
end Mine

local macro_rules | `(tactic| kn_among) => `(tactic| first | with_reducible assumption | exact List.mem_cons_self | (refine List.mem_cons_of_mem _ ?_; kn_among) | (refine List.mem_append.mpr (Or.inr ?_); kn_among) | (refine List.mem_append.mpr (Or.inl ?_); kn_among))

namespace Mine
theorem quietD0 : True := by
  w_top off
  trivial
open PySem PySem.W PyProof.Rows PySem.Spec PySem.Calls
set_option Elab.async false
set_option maxRecDepth 100000
set_option maxHeartbeats 8000000

/-- what a call of the def at f does: from the ledger to a value and a ledger -/
noncomputable def Step (w : World) (f : Addr) (args : List Value) (need : Nat) (news : List (Addr × Obj)) (post : Value → List (Addr × Obj) → Prop) : Prop :=
  ∀ (mean : ExcName → Option Value) (mg mb : Str → Option Value) (dp un : Nat) (gd : Option (List Code)) (cn : Str) (cs : Scope) (a : Addr) (ccd : Value) (cl : List (Str × Addr)) (outer : List Env) (A₀ : Around) (base h₀ : Heap) (L : Addr) (m : Str → Option Value)
    (s : Shared) (Q E : Value → Shared → Prop),
    Below A₀ base outer h₀ → Fr h₀ L s.heap m → (hd.heap_39 w.params).In h₀ → News h₀ L s.heap news → Top hd.view_39 (looseW hd.view_39 []) mean mg mb h₀ → cs.kind = .function → dp + need < recursionLimit → un + 8 * need < cLine →
    (∀ v news' h' tk', post v news' → Fr h₀ L h' m → News h₀ L h' news' → Q v { s with heap := h', toks := tk' }) →
    wpAny (model PySem.Challenge.rw_xm0819_01.row.prog w) (ktrTop dp un gd cn cs L a ccd cl outer) (call (.ref f) args) Q E s

theorem Step.use {w : World} {f : Addr} {args : List Value} {need : Nat} {news : List (Addr × Obj)} {post : Value → List (Addr × Obj) → Prop} {mean : ExcName → Option Value} {mg mb : Str → Option Value}
    {dp un : Nat} {gd : Option (List Code)} {cn : Str} {cs : Scope} {a : Addr} {ccd : Value} {cl : List (Str × Addr)} {outer : List Env} {A₀ : Around} {base h₀ : Heap} {L : Addr} {m : Str → Option Value}
    {s : Shared} {Q E : Value → Shared → Prop} (B : Below A₀ base outer h₀) (F : Fr h₀ L s.heap m) (X : (hd.heap_39 w.params).In h₀) (N : News h₀ L s.heap news) (T : Top hd.view_39 (looseW hd.view_39 []) mean mg mb h₀) (hk : cs.kind = .function)
    (C : Step w f args need news post) (hd : dp + need < recursionLimit) (hu : un + 8 * need < cLine)
    (ret : ∀ v news' h' tk', post v news' → Fr h₀ L h' m → News h₀ L h' news' → Q v { s with heap := h', toks := tk' }) :
    wpAny (model PySem.Challenge.rw_xm0819_01.row.prog w) (ktrTop dp un gd cn cs L a ccd cl outer) (call (.ref f) args) Q E s :=
  C mean mg mb dp un gd cn cs a ccd cl outer A₀ base h₀ L m s Q E B F X N T hk hd hu ret

theorem reorder {h₀ : Heap} {L : Addr} {h : Heap} {l l' : List (Addr × Obj)} (N : News h₀ L h l) (hs : ∀ p ∈ l', p ∈ l) : News h₀ L h l' := fun p hp => N p (hs p hp)

theorem ne_of_allLt {a : Addr} : ∀ {l : List (Addr × Obj)}, AllLt a l → ∀ q ∈ l, a ≠ q.1
  | [], _, _, h => nomatch h
  | p :: r, h, q, hq => by
    rcases List.mem_cons.mp hq with rfl | hq
    · exact Nat.ne_of_gt h.1
    · exact ne_of_allLt h.2 q hq
theorem allLt_trans {a b : Addr} (hab : a < b) : ∀ {l : List (Addr × Obj)}, AllLt a l → AllLt b l
  | [], _ => trivial
  | _ :: _, h => ⟨Nat.lt_trans h.1 hab, allLt_trans hab h.2⟩
theorem ne_of_off1 {a : Addr} : ∀ {l : List (Addr × Obj)}, LCg.Off1 a l → ∀ q ∈ l, a ≠ q.1
  | [], _, _, h => nomatch h
  | p :: r, h, q, hq => by
    rcases List.mem_cons.mp hq with rfl | hq
    · exact Ne.symm h.1
    · exact ne_of_off1 h.2 q hq
theorem ne_up {a b : Nat} (k : Nat) (h : a < b) : b + k ≠ a := by omega
theorem off_nil {news : List (Addr × Obj)} : TbOff [] news := fun _ h => nomatch h
theorem off_cons {a : Addr} {o : Obj} {tl news : List (Addr × Obj)} (h : ∀ q ∈ news, a ≠ q.1) (t : TbOff tl news) : TbOff ((a, o) :: tl) news := by
  intro p hp q hq
  rcases List.mem_cons.mp hp with rfl | hp
  · exact h q hq
  · exact t p hp q hq
theorem off_app {tl tl' news : List (Addr × Obj)} (h : TbOff tl' (tl ++ news)) (t : TbOff tl news) : TbOff (tl' ++ tl) news := by
  intro p hp q hq
  rcases List.mem_append.mp hp with hp | hp
  · exact h p hp q (List.mem_append.mpr (.inr hq))
  · exact t p hp q hq
theorem off_right {tl news news' : List (Addr × Obj)} (h : TbOff tl news') (hs : ∀ p ∈ news, p ∈ news') : TbOff tl news := fun p hp q hq => h p hp q (hs q hq)

/-- the ledger has grown at its head, and what is new lies apart -/
noncomputable def Ext (news l : List (Addr × Obj)) : Prop := ∃ tl, l = tl ++ news ∧ TbOff tl news
theorem Ext.nil {news : List (Addr × Obj)} : Ext news news := ⟨[], rfl, off_nil⟩
theorem Ext.cons {news l : List (Addr × Obj)} {a : Addr} {o : Obj} (h : ∀ q ∈ news, a ≠ q.1) (t : Ext news l) : Ext news ((a, o) :: l) := by
  obtain ⟨tl, rfl, ht⟩ := t
  exact ⟨(a, o) :: tl, rfl, off_cons h ht⟩
theorem Ext.app {news l tl : List (Addr × Obj)} (h : TbOff tl news) (t : Ext news l) : Ext news (tl ++ l) := by
  obtain ⟨tl', rfl, ht⟩ := t
  refine ⟨tl ++ tl', (List.append_assoc ..).symm, fun p hp q hq => ?_⟩
  rcases List.mem_append.mp hp with hp | hp
  · exact h p hp q hq
  · exact ht p hp q hq
theorem Ext.sub {news l : List (Addr × Obj)} (t : Ext news l) : ∀ p ∈ news, p ∈ l := by
  obtain ⟨tl', rfl, _⟩ := t
  exact fun p hp => List.mem_append.mpr (.inr hp)
theorem Ext.trans {a b c : List (Addr × Obj)} (h : Ext a b) (k : Ext b c) : Ext a c := by
  obtain ⟨t1, rfl, h1⟩ := h
  obtain ⟨t2, rfl, h2⟩ := k
  exact ⟨t2 ++ t1, (List.append_assoc ..).symm, off_app h2 h1⟩
theorem sub_cons {p : Addr × Obj} {l : List (Addr × Obj)} : ∀ q ∈ l, q ∈ p :: l := fun _ h => .tail _ h
theorem sub_app {tl l : List (Addr × Obj)} : ∀ q ∈ l, q ∈ tl ++ l := fun _ h => List.mem_append.mpr (.inr h)

theorem no_mem {α : Type} {P : α → Prop} : ∀ p ∈ ([] : List α), P p := fun _ h => nomatch h
theorem sub_c {α : Type} {a : α} {l l' : List α} (h : a ∈ l') (t : ∀ q ∈ l, q ∈ l') : ∀ q ∈ a :: l, q ∈ l' := List.forall_mem_cons.mpr ⟨h, t⟩
theorem sub_a {α : Type} {k l l' : List α} (h : ∀ q ∈ k, q ∈ l') (t : ∀ q ∈ l, q ∈ l') : ∀ q ∈ k ++ l, q ∈ l' := fun q hq => (List.mem_append.mp hq).elim (h q) (t q)
theorem lt_fit2 {u a b k c : Nat} (h : u + k < c) (hab : a + b ≤ k := by decide) : u + a + b < c := Nat.lt_of_le_of_lt (Nat.add_assoc u a b ▸ Nat.add_le_add_left hab u) h
/-- a scan as data -/
structure Sc where
  ps : List Int
  st : Int
  en : Int
  hi : Int
  lo : Int

noncomputable def slot (p : Int) : Int := if p = 0 then 0 else 1

noncomputable abbrev ent (P : Params) (x : Str) (t : Tok) (v : Value) : DictEntry := { hash := PyData.keyHash P x, key := .str x t, val := v }

/-- the ledger bears at r an own Scan that says σ -/
inductive ScanIn (P : Params) (news : List (Addr × Obj)) (r : Addr) (σ : Sc) : Prop
  | intro (d lp l1 l2 : Addr) (vp v1 v2 : List Value) (np n1 n2 nd : Nat) (k1 k2 k3 k4 k5 k6 k7 ta tb tc td : Tok)
    (_ : (r, instObj 52 d) ∈ news)
    (_ : (d, dictOf [ent P (Str.ofString "places") k1 (.ref lp), ent P (Str.ofString "dc_slots") k2 (.ref l1), ent P (Str.ofString "ac_slots") k3 (.ref l2), ent P (Str.ofString "start") k4 (.int σ.st ta),
      ent P (Str.ofString "end") k5 (.int σ.en tb), ent P (Str.ofString "high") k6 (.int σ.hi tc), ent P (Str.ofString "low") k7 (.int σ.lo td)] nd) ∈ news)
    (_ : (lp, listOf vp.toArray np) ∈ news) (_ : (l1, listOf v1.toArray n1) ∈ news) (_ : (l2, listOf v2.toArray n2) ∈ news)
    (_ : IntsAre vp σ.ps) (_ : IntsAre v1 (σ.ps.map slot)) (_ : IntsAre v2 (σ.ps.map slot))
theorem ScanIn.mono {P : Params} {news news' : List (Addr × Obj)} {r : Addr} {σ : Sc} (h : ScanIn P news r σ) (hs : ∀ p ∈ news, p ∈ news') : ScanIn P news' r σ := by
  obtain ⟨d, lp, l1, l2, vp, v1, v2, np, n1, n2, nd, k1, k2, k3, k4, k5, k6, k7, ta, tb, tc, td, a, b, c, e, f, r1, r2, r3⟩ := h
  exact ⟨d, lp, l1, l2, vp, v1, v2, np, n1, n2, nd, k1, k2, k3, k4, k5, k6, k7, ta, tb, tc, td, hs _ a, hs _ b, hs _ c, hs _ e, hs _ f, r1, r2, r3⟩
theorem pr_append {α β : Type} {F : α → β → Prop} {l₁ l₁' : List α} {l₂ l₂' : List β} (h : Paired F l₁ l₂) (h' : Paired F l₁' l₂') : Paired F (l₁ ++ l₁') (l₂ ++ l₂') := by
  induction h with
  | nil => exact h'
  | cons a _ ih => exact .cons a ih
theorem pr_at {α β : Type} {F : α → β → Prop} {v : α} {l₁ : List α} {l₂ : List β} (h : Paired F l₁ l₂) : ∀ {i : Nat}, l₁[i]? = some v → ∃ b, F v b ∧ l₂[i]? = some b := by
  induction h with
  | nil => exact fun h => nomatch h
  | cons a _ ih =>
    intro i h
    cases i with
    | zero => exact ⟨_, Option.some.inj h ▸ a, rfl⟩
    | succ i => exact ih h
theorem pr_take {α β : Type} {F : α → β → Prop} {l₁ : List α} {l₂ : List β} (h : Paired F l₁ l₂) : ∀ i, Paired F (l₁.take i) (l₂.take i) := by
  induction h with
  | nil => exact fun i => by rw [List.take_nil, List.take_nil]; exact .nil
  | cons a _ ih => exact fun i => Nat.casesOn i .nil fun i => .cons a (ih i)
noncomputable def AreScans (P : Params) (news : List (Addr × Obj)) (vs : List Value) (σs : List Sc) : Prop := Paired (fun v σ => ∃ r, v = .ref r ∧ ScanIn P news r σ) vs σs
theorem AreScans.nil {P : Params} {news : List (Addr × Obj)} : AreScans P news [] [] := Paired.nil
theorem AreScans.cons {P : Params} {news : List (Addr × Obj)} {r : Addr} {σ : Sc} {vs : List Value} {σs : List Sc} (h : ScanIn P news r σ) (t : AreScans P news vs σs) : AreScans P news (.ref r :: vs) (σ :: σs) := Paired.cons ⟨r, rfl, h⟩ t
theorem AreScans.mono {P : Params} {news news' : List (Addr × Obj)} (hs : ∀ p ∈ news, p ∈ news') {vs : List Value} {σs : List Sc} (h : AreScans P news vs σs) : AreScans P news' vs σs :=
  Paired.mono (fun _ _ ⟨r, e, h⟩ => ⟨r, e, h.mono hs⟩) h
theorem AreScans.append {P : Params} {news : List (Addr × Obj)} {vs vs' : List Value} {σs σs' : List Sc} (h : AreScans P news vs σs) (h' : AreScans P news vs' σs') : AreScans P news (vs ++ vs') (σs ++ σs') := pr_append h h'
theorem AreScans.length {P : Params} {news : List (Addr × Obj)} {vs : List Value} {σs : List Sc} (h : AreScans P news vs σs) : vs.length = σs.length := Paired.length h

section
variable {prog : Program} {w : World} {A : Around} {h₀ : Heap} {L : Addr} {m : Str → Option Value} {env : Env} {elt : Expr} {x : Str} {scope : Scope} {cl : List (Str × Addr)} {s : Shared} {S : List (Addr × Obj) → Prop} {P : Nat → Value → Prop} {Fin : List Value → List (Addr × Obj) → Prop} {news : List (Addr × Obj)}
/-- a comprehension by what holds of its list and of the ledger after i turns -/
theorem rest_inv {n : Nat} (J : Nat → List Value → List (Addr × Obj) → Prop) (h0 : J 0 [] news)
    (turn : ∀ i ys nw v I oI C oC D m₂ h tk (E' : Value → Shared → Prop), i < n → P i v → J i ys nw → LCg.NsObj oC m₂ → m₂ x = some v → Fr h₀ L h m → News h₀ L h ((I, oI) :: (C, oC) :: (D, LCg.lst ys) :: nw) → LCg.Off3 I C D nw → ((@Ne Nat I C) ∧ (@Ne Nat I D) ∧ (@Ne Nat C D)) →
      wpAny (model prog w) A (eval elt (compEnvC scope cl C env)) (LCg.CompEnd h₀ L m { s with heap := h, toks := tk } I oI C oC D (LCg.lst ys) S (fun y nw' => J (i + 1) (ys ++ [y]) nw')) E' { s with heap := h, toks := tk })
    (fin : ∀ ys nw, J n ys nw → Fin ys nw) : LCg.CompRest prog w A h₀ L m env elt x scope cl s S P Fin n 0 [] news := by
  have key : ∀ (j i : Nat) (ys : List Value) (nw : List (Addr × Obj)), i + j = n → J i ys nw → LCg.CompRest prog w A h₀ L m env elt x scope cl s S P Fin j i ys nw := by
    intro j
    induction j with
    | zero =>
      intro i ys nw hi hy
      have e : i = n := by omega
      subst e
      exact LCg.CompRest.zero (fin ys nw hy)
    | succ j ih =>
      intro i ys nw hi hy
      refine LCg.CompRest.succ ?_
      intro v I oI C oC D m₂ h tk E' hv hC hx F N off ne
      refine wpAny_mono (turn i ys nw v I oI C oC D m₂ h tk E' (by omega) hv hy hC hx F N off ne) (fun y s₂ hq => ?_) fun _ _ e => e
      obtain ⟨h', tk', nw', e, F', N', off', hS, hj⟩ := hq
      exact ⟨h', tk', nw', e, F', N', off', hS, ih (i + 1) _ _ (by omega) hj⟩
  exact key n 0 [] news (by omega) h0
end
theorem off3_of {I C D : Addr} {l : List (Addr × Obj)} (h : TbOff l [(I, default), (C, default), (D, default)]) : LCg.Off3 I C D l :=
  LCg.Off3.of fun p hp => ⟨h p hp _ (.head _), h p hp _ (.tail _ (.head _)), h p hp _ (.tail _ (.tail _ (.head _)))⟩
theorem comp_end {h₀ h' : Heap} {L I C D q : Addr} {oI oC oD oq : Obj} {m : Str → Option Value} {s₁ : Shared} {S : List (Addr × Obj) → Prop} {rest : Value → List (Addr × Obj) → Prop} {y : Value} {tk : Nat} {tl nw : List (Addr × Obj)}
    (F : Fr h₀ L h' m) (N : News h₀ L h' (tl ++ (q, oq) :: (I, oI) :: (C, oC) :: (D, oD) :: nw)) (off : LCg.Off3 I C D nw) (hq : q ≠ I ∧ q ≠ C ∧ q ≠ D) (ho : TbOff tl ((q, oq) :: (I, oI) :: (C, oC) :: (D, oD) :: nw))
    (hS : S (tl ++ (q, oq) :: nw)) (r : rest y (tl ++ (q, oq) :: nw)) : LCg.CompEnd h₀ L m s₁ I oI C oC D oD S rest y { s₁ with heap := h', toks := tk } := by
  refine LCg.CompEnd.intro F N (tl ++ (q, oq) :: nw) (by (repeat' first | refine sub_a ?_ ?_ | refine sub_c ?_ ?_) <;> first | exact no_mem | kn_among | (intro q hq; kn_among)) (LCg.Off3.of fun p hp => ?_) hS r
  · rcases List.mem_append.mp hp with h | h
    · exact ⟨ho p h (I, oI) (.tail _ (.head _)), ho p h (C, oC) (.tail _ (.tail _ (.head _))), ho p h (D, oD) (.tail _ (.tail _ (.tail _ (.head _))))⟩
    · rcases List.mem_cons.mp h with rfl | h
      · exact hq
      · exact off.mem p h
theorem comp_end0 {h₀ h' : Heap} {L I C D : Addr} {oI oC oD : Obj} {m : Str → Option Value} {s₁ : Shared} {S : List (Addr × Obj) → Prop} {rest : Value → List (Addr × Obj) → Prop} {y : Value} {tk : Nat} {tl nw : List (Addr × Obj)}
    (F : Fr h₀ L h' m) (N : News h₀ L h' (tl ++ (I, oI) :: (C, oC) :: (D, oD) :: nw)) (off : LCg.Off3 I C D nw) (ho : TbOff tl ((I, oI) :: (C, oC) :: (D, oD) :: nw))
    (hS : S (tl ++ nw)) (r : rest y (tl ++ nw)) : LCg.CompEnd h₀ L m s₁ I oI C oC D oD S rest y { s₁ with heap := h', toks := tk } := by
  refine LCg.CompEnd.intro F N (tl ++ nw) (by (repeat' first | refine sub_a ?_ ?_ | refine sub_c ?_ ?_) <;> first | exact no_mem | kn_among | (intro q hq; kn_among)) (LCg.Off3.of fun p hp => ?_) hS r
  · rcases List.mem_append.mp hp with h | h
    · exact ⟨ho p h (I, oI) (.head _), ho p h (C, oC) (.tail _ (.head _)), ho p h (D, oD) (.tail _ (.tail _ (.head _)))⟩
    · exact off.mem p h
theorem take_snoc {α : Type} {l : List α} {i : Nat} {a : α} (h : l[i]? = some a) : l.take (i + 1) = l.take i ++ [a] := by rw [List.take_add_one, h]; rfl

/-- a component: its object, its dict, what it says -/
structure Cp where
  c : Addr
  d : Addr
  a : Int
  b : Int
inductive CompIn (P : Params) (news : List (Addr × Obj)) (q : Cp) : Prop
  | intro (i : Int) (k1 k2 k3 k4 t1 t2 t3 t4 : Tok) (n : Nat) (_ : (q.c, instObj 116 q.d) ∈ news)
    (_ : (q.d, dictOf [ent P (Str.ofString "ident") k1 (.int i t1), ent P (Str.ofString "across") k2 (.int q.a t2), ent P (Str.ofString "down") k3 (.int q.b t3), ent P (Str.ofString "quant") k4 (.int 0 t4)] n) ∈ news)
inductive FrameIn (P : Params) (news : List (Addr × Obj)) (fr : Addr) (cps : List Cp) (side : Int) : Prop
  | intro (fd cl : Addr) (k1 k2 k3 k4 k5 k6 t1 t2 t3 t4 t6 : Tok) (n m : Nat) (_ : (fr, instObj 182 fd) ∈ news)
    (_ : (fd, dictOf [ent P (Str.ofString "kind") k1 (.str (Str.ofString "progressive") t1), ent P (Str.ofString "precision") k2 (.int 8 t2), ent P (Str.ofString "height") k3 (.int 9 t3), ent P (Str.ofString "width") k4 (.int 9 t4),
      ent P (Str.ofString "components") k5 (.ref cl), ent P (Str.ofString "n") k6 (.int side t6)] n) ∈ news)
    (_ : (cl, listOf (cps.map fun q => .ref q.c).toArray m) ∈ news) (_ : ∀ q ∈ cps, CompIn P news q) (_ : ∀ q ∈ cps, 1 ≤ q.a ∧ q.a ≤ 2 ∧ 1 ≤ q.b ∧ q.b ≤ 2 ∧ q.a * q.b ≤ 2)
/-- a list of lists of ints -/
noncomputable def AreLists (news : List (Addr × Obj)) (vs : List Value) (gs : List (List Int)) : Prop := Paired (fun v g => ∃ a ws n, v = .ref a ∧ (a, listOf ws.toArray n) ∈ news ∧ IntsAre ws g) vs gs
theorem AreLists.nil {news : List (Addr × Obj)} : AreLists news [] [] := Paired.nil
theorem AreLists.cons {news : List (Addr × Obj)} {a : Addr} {vs ws : List Value} {n : Nat} {g : List Int} {gs : List (List Int)} (h : (a, listOf vs.toArray n) ∈ news) (i : IntsAre vs g) (t : AreLists news ws gs) : AreLists news (.ref a :: ws) (g :: gs) := Paired.cons ⟨a, vs, n, rfl, h, i⟩ t
theorem AreLists.mono {news news' : List (Addr × Obj)} (hs : ∀ p ∈ news, p ∈ news') {vs : List Value} {gs : List (List Int)} (h : AreLists news vs gs) : AreLists news' vs gs :=
  Paired.mono (fun _ _ ⟨a, ws, n, e, h, i⟩ => ⟨a, ws, n, e, hs _ h, i⟩) h
noncomputable def groupsOf : Nat → List (List Int)
  | 1 => [[0]]
  | 2 => [[0, 1]]
  | 3 => [[0, 1, 2]]
  | 4 => [[0, 1, 2, 3]]
  | _ => [[0, 1, 2, 3], [4]]

theorem item_news {prog : Program} {w : World} {A : Around} {E : Value → Shared → Prop} {s : Shared} {h₀ : Heap} {L : Addr} {news : List (Addr × Obj)} {value slice : Expr} {l : Addr} {its : Array Value} {n : Nat} {k : Int} {u : Tok} {v : Value} {Q : Value → Shared → Prop}
    (N : News h₀ L s.heap news) (hm : (l, listOf its n) ∈ news) (h0 : 0 ≤ k) (hhi : k < 2 ^ 63) (hx : its[k.toNat]? = some v) (h : Q v s)
    (hs : subscripted slice false (.ref l) (.int k u) = operate [.ref l, .int k u] (getItem (.ref l) (.int k u)) := by with_unfolding_all rfl) :
    wpAny (model prog w) A (subscriptTail value slice (.ref l) (.int k u)) Q E s :=
  have hl : s.heap.IsList l its := ⟨_, N.get hm, rfl, _, rfl⟩
  tail_any hl.typeIs slot_list_getitem.lookup (wpAny_getItem_list hl h0 hhi hx h) hs
theorem item_ref {prog : Program} {w : World} {A : Around} {E : Value → Shared → Prop} {s : Shared} {h₀ : Heap} {L : Addr} {news : List (Addr × Obj)} {value slice : Expr} {l : Addr} {its : Array Value} {n : Nat} {k : Int} {u : Tok} {v : Addr} {Q : Value → Shared → Prop}
    (N : News h₀ L s.heap news) (hm : (l, listOf its n) ∈ news) (h0 : 0 ≤ k) (hhi : k < 2 ^ 63) (hx : its[k.toNat]? = some (.ref v)) (h : Q (.ref v) s)
    (hs : subscripted slice false (.ref l) (.int k u) = operate [.ref l, .int k u] (getItem (.ref l) (.int k u)) := by with_unfolding_all rfl) :
    wpAny (model prog w) A (subscriptTail value slice (.ref l) (.int k u)) Q E s := item_news N hm h0 hhi hx h hs
theorem small_mul {a b : Int} (h : 1 ≤ a ∧ a ≤ 2 ∧ 1 ≤ b ∧ b ≤ 2) : IntMulOk a b := by
  obtain ⟨h1, h2, h3, h4⟩ := h
  have ha : a = 1 ∨ a = 2 := by omega
  have hb : b = 1 ∨ b = 2 := by omega
  rcases ha with rfl | rfl <;> rcases hb with rfl | rfl <;> mul_fits
theorem cp_mul {prog : Program} {w : World} {A : Around} {E : Value → Shared → Prop} {s : Shared} {a b : Int} {t u : Tok} {Q : Value → Shared → Prop} (hs : 1 ≤ a ∧ a ≤ 2 ∧ 1 ≤ b ∧ b ≤ 2 ∧ a * b ≤ 2)
    (h : 1 ≤ a * b → a * b ≤ 2 → Q (.int (a * b) s.toks) { s with toks := s.toks + 1 }) : wpAny (model prog w) A (binaryOp .Mult (.int a t) (.int b u)) Q E s :=
  mul_int (h (by
    obtain ⟨h1, h2, h3, h4, _⟩ := hs
    have ha : a = 1 ∨ a = 2 := by omega
    have hb : b = 1 ∨ b = 2 := by omega
    rcases ha with rfl | rfl <;> rcases hb with rfl | rfl <;> decide) hs.2.2.2.2) (small_mul ⟨hs.1, hs.2.1, hs.2.2.1, hs.2.2.2.1⟩)
theorem ints_nil {vs : List Value} (h : IntsAre vs []) : vs = [] := by cases h; rfl
theorem ints_cons {vs : List Value} {a : Int} {r : List Int} (h : IntsAre vs (a :: r)) : ∃ t vs', vs = .int a t :: vs' ∧ IntsAre vs' r := by
  cases h with
  | cons n t k => exact ⟨t, _, rfl, k⟩
theorem CompIn.mono {P : Params} {news news' : List (Addr × Obj)} {q : Cp} (h : CompIn P news q) (hs : ∀ p ∈ news, p ∈ news') : CompIn P news' q := by
  obtain ⟨i, k1, k2, k3, k4, t1, t2, t3, t4, n, a, b⟩ := h
  exact ⟨i, k1, k2, k3, k4, t1, t2, t3, t4, n, hs _ a, hs _ b⟩
theorem FrameIn.mono {P : Params} {news news' : List (Addr × Obj)} {fr : Addr} {cps : List Cp} {side : Int} (h : FrameIn P news fr cps side) (hs : ∀ p ∈ news, p ∈ news') : FrameIn P news' fr cps side := by
  obtain ⟨fd, cl, k1, k2, k3, k4, k5, k6, t1, t2, t3, t4, t6, n, m, a, b, c, d, e⟩ := h
  exact ⟨fd, cl, k1, k2, k3, k4, k5, k6, t1, t2, t3, t4, t6, n, m, hs _ a, hs _ b, hs _ c, fun q hq => (d q hq).mono hs, e⟩
end Mine

namespace Mine
theorem quietL0 : True := by
  w_top off
  trivial
open PySem PySem.W PyProof.Rows PySem.Spec PySem.Calls
set_option Elab.async false
set_option maxRecDepth 100000
set_option maxHeartbeats 1000000
theorem all1 {α : Type} {P : α → Prop} {a : α} (h1 : P a) : ∀ p ∈ [a], P p := by simp [h1]
theorem all2 {α : Type} {P : α → Prop} {a b : α} (h1 : P a) (h2 : P b) : ∀ p ∈ [a, b], P p := by simp [h1, h2]
theorem all3 {α : Type} {P : α → Prop} {a b c : α} (h1 : P a) (h2 : P b) (h3 : P c) : ∀ p ∈ [a, b, c], P p := by simp [h1, h2, h3]
section
variable {prog : Program} {w : World} {A : Around} {E : Value → Shared → Prop} {s : Shared} {env : Env} {h₀ : Heap} {x : Str} {body : List Stmt} {Q : Flow → Shared → Prop}

noncomputable def LEnd (h₀ : Heap) (L : Addr) (J : (Str → Option Value) → List (Addr × Obj) → Prop) (I : Addr) (oI : Obj) (s₁ s₂ : Shared) : Prop :=
  ∃ h' tk m' news' nx, s₂ = { s₁ with heap := h', toks := tk } ∧ Fr h₀ L h' m' ∧ News h₀ L h' news' ∧ (I, oI) ∈ news' ∧ (∀ p ∈ nx, p ∈ news') ∧ (∀ p ∈ nx, p.1 ≠ I) ∧ J m' nx
noncomputable def LPost (h₀ : Heap) (L : Addr) (J : (Str → Option Value) → List (Addr × Obj) → Prop) (I : Addr) (oI : Obj) (s₁ : Shared) (Q : Flow → Shared → Prop) (f : Flow) (s₂ : Shared) : Prop :=
  match f with
  | .ret v => Q (.ret v) s₂
  | .brk => Q .next s₂
  | _ => LEnd h₀ L J I oI s₁ s₂
theorem LEnd.intro {L I : Addr} {oI : Obj} {J : (Str → Option Value) → List (Addr × Obj) → Prop} {m' : Str → Option Value} {news' nx : List (Addr × Obj)} {s₁ : Shared} {h' : Heap} {tk : Nat} (F : Fr h₀ L h' m') (N : News h₀ L h' news') (hI : (I, oI) ∈ news') (hn : ∀ p ∈ nx, p ∈ news')
    (ho : ∀ p ∈ nx, p.1 ≠ I) (hj : J m' nx) : LEnd h₀ L J I oI s₁ { s₁ with heap := h', toks := tk } := ⟨h', tk, m', news', nx, rfl, F, N, hI, hn, ho, hj⟩

/-- what the frame says between the turns -/
noncomputable def Says (x : Str) (names : List Str) (m₀ : Str → Option Value) (ps : List (Str × Value)) (m' : Str → Option Value) : Prop :=
  (∀ p ∈ ps, m' p.1 = some p.2) ∧ ∀ z, z ≠ x → names.contains z = false → m' z = m₀ z
noncomputable abbrev fmap (names : List Str) (m₀ u : Str → Option Value) (ps : List (Str × Value)) : Str → Option Value := kstB (fun z => if names.contains z then u z else m₀ z) ps
theorem Says.at {names : List Str} {m₀ m₁ : Str → Option Value} {ps : List (Str × Value)} (h : Says x names m₀ ps m₁) {y : Str} (hy : y ≠ x) : fmap names m₀ m₁ ps y = m₁ y := by
  refine kstB_eq h.1 fun _ => ?_
  show (if names.contains y = true then m₁ y else m₀ y) = m₁ y
  cases h3 : names.contains y with
  | true => simp
  | false => simp only [Bool.false_eq_true, if_false]; exact (h.2 y hy h3).symm
theorem Says.frIn {L : Addr} {h : Heap} {names : List Str} {m₀ m₁ : Str → Option Value} {ps : List (Str × Value)} {v : Value} (S : Says x names m₀ ps m₁) (F : Fr h₀ L h (fun y => if y = x then some v else m₁ y)) :
    Fr h₀ L h (fun y => if y = x then some v else fmap names m₀ m₁ ps y) := by
  have em : (fun y => if y = x then some v else fmap names m₀ m₁ ps y) = fun y => if y = x then some v else m₁ y := by
    funext y
    by_cases hy : y = x
    · rw [if_pos hy, if_pos hy]
    · rw [if_neg hy, if_neg hy, S.at hy]
  rw [em]; exact F
theorem Says.frOut {L : Addr} {h : Heap} {names : List Str} {m₀ m₁ : Str → Option Value} {ps : List (Str × Value)} (S : Says x names m₀ ps m₁) (F : Fr h₀ L h m₁) :
    Fr h₀ L h (fun y => if y = x then m₁ y else fmap names m₀ m₁ ps y) := by
  have em : (fun y => if y = x then m₁ y else fmap names m₀ m₁ ps y) = m₁ := by
    funext y
    by_cases hy : y = x
    · rw [if_pos hy]
    · rw [if_neg hy, S.at hy]
  rw [em]; exact F

theorem loop_grow {σ : Type} {I : Addr} {fp : List Addr} {n : Nat} {P : Nat → Value → Prop} {St : Nat → Heap → Prop} {m₀ : Str → Option Value} {news : List (Addr × Obj)} (names : List Str) (ps : σ → List (Str × Value)) (J : Nat → σ → List (Addr × Obj) → Prop) (c₀ : σ)
    (W : Walks prog w A I fp [I] n P St) (hLf : env.locals ∉ fp) (hI₀ : h₀.get? I = none) (hnw : ∀ p ∈ news, p.1 ≠ I) (hst : St 0 s.heap) (hlive : ∀ i h, St i h → ∃ o, h.get? I = some o)
    (src : List (Addr × Obj)) (hsrc : ∀ i c nx, J i c nx → ∀ p ∈ src, p ∈ nx) (hfp : ∀ b ∈ fp, b = I ∨ ∃ o, (b, o) ∈ src)
    (F : Fr h₀ env.locals s.heap m₀) (N : News h₀ env.locals s.heap news) (hk : ∀ p ∈ ps c₀, m₀ p.1 = some p.2) (hj : J 0 c₀ news)
    (turn : ∀ i c v (u : Str → Option Value) nx oI h tk, i < n → P i v → J i c nx → (∀ p ∈ nx, p.1 ≠ I) →
      Fr h₀ env.locals h (fun y => if y = x then some v else fmap names m₀ u (ps c) y) → News h₀ env.locals h ((I, oI) :: nx) →
      wpAny (model prog w) A (execs body env) (LPost h₀ env.locals (fun m' nx' => ∃ c', J (i + 1) c' nx' ∧ Says x names m₀ (ps c') m') I oI { s with heap := h, toks := tk } Q) E { s with heap := h, toks := tk })
    (done : ∀ c (u : Str → Option Value) nx h tk, J n c nx → Fr h₀ env.locals h (fun y => if y = x then u y else fmap names m₀ u (ps c) y) → News h₀ env.locals h nx → Q .next { s with heap := h, toks := tk }) :
    LoopAtV prog w A h₀ env x body Q E (.ref I) s := by
  refine ⟨I, fp, [I], n, P, St, m₀, news, fun i m nx => ∃ c, J i c nx ∧ Says x names m₀ (ps c) m, rfl, W, hLf, (fun b hb => by rw [List.mem_singleton.mp hb]; exact hI₀), (fun p hp hb => hnw p hp (List.mem_singleton.mp hb)), hst, F, N, ⟨c₀, hj, hk, fun _ _ _ => rfl⟩, ?_, ?_⟩
  · rintro i v m₁ nx s₁ own ⟨hh', tk', rfl⟩ hin hP ⟨c, hJ, hS⟩ hoff hown hget hmem hst₁ F₁ N₁
    obtain ⟨oI, hoI⟩ := hlive _ _ hst₁
    have hIo : (I, oI) ∈ own := hmem I (W.sub I (List.mem_singleton.mpr rfl)) hI₀ oI hoI
    have hnx : ∀ p ∈ nx, p.1 ≠ I := fun p hp e => hoff p hp (List.mem_singleton.mpr e)
    have N₂ : News h₀ env.locals hh' ((I, oI) :: nx) := fun p hp => by
      rcases List.mem_cons.mp hp with rfl | hp
      · exact N₁ _ (List.mem_append.mpr (.inl hIo))
      · exact N₁ p (List.mem_append.mpr (.inr hp))
    refine wpAny_mono (turn i c v m₁ nx oI hh' tk' hin hP hJ hnx (hS.frIn F₁) N₂) (fun f s₂ p => ?_) fun _ _ e => e
    have fin : LEnd h₀ env.locals (fun m' nx' => ∃ c', J (i + 1) c' nx' ∧ Says x names m₀ (ps c') m') I oI { s with heap := hh', toks := tk' } s₂ →
        LoopStepU h₀ env.locals [I] own (fun m nx => ∃ c, J (i + 1) c nx ∧ Says x names m₀ (ps c) m) { s with heap := hh', toks := tk' } .next s₂ := by
      rintro ⟨h', tk, m', news', nx', rfl, F', N', hI', hn, ho, c', hJ', hS'⟩
      have N₃ : News h₀ env.locals h' ((I, oI) :: nx') := fun p hp => by
        rcases List.mem_cons.mp hp with rfl | hp
        · exact N' _ hI'
        · exact N' p (hn p hp)
      refine ⟨rfl, h', tk, m', nx', rfl, F', fun p hp => ?_, fun p hp hq => ho p hp (List.mem_singleton.mp hq), c', hJ', hS'⟩
      rcases List.mem_append.mp hp with hp | hp
      · have hp1 := hown p hp
        have z₁ := N₁ p (List.mem_append.mpr (.inl hp))
        rcases hfp p.1 hp1 with e | ⟨o, ho'⟩
        · have : p = (I, oI) := Prod.ext e (Option.some.inj (z₁.1.symm.trans (by rw [e]; exact hoI)))
          rw [this]; exact N' _ hI'
        · have z₂ := (N₁ (p.1, o) (List.mem_append.mpr (.inr (hsrc _ _ _ hJ _ ho')))).1
          have : p = (p.1, o) := Prod.ext rfl (Option.some.inj (z₁.1.symm.trans z₂))
          rw [this]; exact N' _ (hn _ (hsrc _ _ _ hJ' _ ho'))
      · exact N' p (hn p hp)
    cases f with
    | ret v => exact .ret p
    | brk => exact .brk p
    | next => exact .next (fin p)
    | cont => exact .cont (fin p)
  · rintro h' tk m' nx F' N' _ ⟨c, hJ, hS⟩
    exact done c m' nx h' tk hJ (hS.frOut F') N'

/-- a loop over a list of the ledger -/
theorem for_list {σ : Type} {l : Addr} {its : Array Value} {k : Nat} {m₀ : Str → Option Value} {news : List (Addr × Obj)} (names : List Str) (ps : σ → List (Str × Value)) (J : Nat → σ → List (Addr × Obj) → Prop) (c₀ : σ)
    (hh : A.handled = none) (hl : ∀ i c nx, J i c nx → (l, listOf its k) ∈ nx) (F : Fr h₀ env.locals s.heap m₀) (N : News h₀ env.locals s.heap news) (hk : ∀ p ∈ ps c₀, m₀ p.1 = some p.2) (hj : J 0 c₀ news)
    (turn : ∀ i c v (u : Str → Option Value) nx I oI h tk, i < its.size → its[i]? = some v → J i c nx → (∀ p ∈ nx, p.1 ≠ I) →
      Fr h₀ env.locals h (fun y => if y = x then some v else fmap names m₀ u (ps c) y) → News h₀ env.locals h ((I, oI) :: nx) →
      wpAny (model prog w) A (execs body env) (LPost h₀ env.locals (fun m' nx' => ∃ c', J (i + 1) c' nx' ∧ Says x names m₀ (ps c') m') I oI { s with heap := h, toks := tk } Q) E { s with heap := h, toks := tk })
    (done : ∀ c (u : Str → Option Value) nx h tk, J its.size c nx → Fr h₀ env.locals h (fun y => if y = x then u y else fmap names m₀ u (ps c) y) → News h₀ env.locals h nx → Q .next { s with heap := h, toks := tk }) :
    wpAny (model prog w) A (pyIter (.ref l)) (fun it s₂ => LoopAtV prog w A h₀ env x body Q E it s₂) E s := by
  have hls : s.heap.IsList l its := ⟨_, N.get (hl 0 c₀ news hj), rfl, _, rfl⟩
  obtain ⟨ol, hol, _⟩ := id hls
  have hlt : l < s.heap.objs.size := Heap.lt_size hol
  have hne : l ≠ s.heap.objs.size := Nat.ne_of_lt hlt
  have hl2 := (N _ (hl 0 c₀ news hj)).2
  refine wpAny_pyIter_list hls ?_
  refine loop_grow names ps J c₀ (Walks.list (prog := prog) (w := w) hh s.heap.objs.size l hne its) ?_ ?_ ?_ ⟨⟨_, Heap.get?_push_size _ rfl, rfl, rfl⟩, hls.at fun o e => Heap.get?_push_of_some _ e⟩
    (fun i h st => by obtain ⟨⟨o, e, _⟩, _⟩ := st; exact ⟨o, e⟩) [(l, listOf its k)] (fun i c nx hJ p hp => by rw [List.mem_singleton.mp hp]; exact hl i c nx hJ) ?_ (F.push _) (fun p hp => ⟨Heap.get?_push_of_some _ (N p hp).1, (N p hp).2⟩) hk hj ?_ ?_
  · intro hm
    rcases List.mem_cons.mp hm with e | hm
    · exact absurd F.ns.lt (e ▸ Nat.lt_irrefl _)
    · exact hl2.1 (List.mem_singleton.mp hm).symm
  · exact next_is_new F
  · intro p hp hI
    exact absurd (Heap.lt_size (N p hp).1) (hI ▸ Nat.lt_irrefl _)
  · intro b hb
    rcases List.mem_cons.mp hb with e | hb
    · exact .inl e
    · exact .inr ⟨_, by rw [List.mem_singleton.mp hb]; exact .head _⟩
  · intro i c v u nx oI h tk hi hv hJ hI F₁ N₁
    exact turn i c v u nx _ oI h tk hi hv hJ hI F₁ N₁
  · exact done

/-- a loop over a range by ones -/
theorem for_range {σ : Type} {r : Addr} {a₀ b₀ : Int} {t₀ u₀ v₀ : Tok} {n : Nat} {m₀ : Str → Option Value} {news : List (Addr × Obj)} (names : List Str) (ps : σ → List (Str × Value)) (J : Nat → σ → List (Addr × Obj) → Prop) (c₀ : σ)
    (hh : A.handled = none) (hr : IsRange s.heap r a₀ b₀ 1 t₀ u₀ v₀) (hsmall : Builtin.Range.small a₀ b₀ 1 = true) (hn : Builtin.Range.rangeSize a₀ b₀ 1 = (n : Int)) (F : Fr h₀ env.locals s.heap m₀) (N : News h₀ env.locals s.heap news) (hk : ∀ p ∈ ps c₀, m₀ p.1 = some p.2) (hj : J 0 c₀ news)
    (turn : ∀ i c t (u : Str → Option Value) nx I oI h tk, i < n → J i c nx → (∀ p ∈ nx, p.1 ≠ I) →
      Fr h₀ env.locals h (fun y => if y = x then some (.int (a₀ + (i : Int)) t) else fmap names m₀ u (ps c) y) → News h₀ env.locals h ((I, oI) :: nx) →
      wpAny (model prog w) A (execs body env) (LPost h₀ env.locals (fun m' nx' => ∃ c', J (i + 1) c' nx' ∧ Says x names m₀ (ps c') m') I oI { s with heap := h, toks := tk } Q) E { s with heap := h, toks := tk })
    (done : ∀ c (u : Str → Option Value) nx h tk, J n c nx → Fr h₀ env.locals h (fun y => if y = x then u y else fmap names m₀ u (ps c) y) → News h₀ env.locals h nx → Q .next { s with heap := h, toks := tk }) :
    wpAny (model prog w) A (pyIter (.ref r)) (fun it s₂ => LoopAtV prog w A h₀ env x body Q E it s₂) E s := by
  refine wpAny_pyIter_range hr hsmall ?_
  have W : Walks prog w A s.heap.objs.size [s.heap.objs.size] [s.heap.objs.size] n (fun i v => i < n ∧ ∃ t, v = .int (a₀ + i * 1) t)
      (fun i h => IsRangeIter h s.heap.objs.size (a₀ + (i : Nat) * 1) ((n : Int) - (i : Nat)) 1) := (Walks.range hh _ a₀ 1 n).bound
  refine loop_grow names ps J c₀ W ?_ ?_ ?_ (by show IsRangeIter _ _ _ _ _; rw [hn]; simpa using Heap.get?_push_size _ rfl) (fun i h st => ⟨_, st⟩) [] (fun _ _ _ _ _ hp => nomatch hp) (fun b hb => .inl (List.mem_singleton.mp hb)) (F.push _) (fun p hp => ⟨Heap.get?_push_of_some _ (N p hp).1, (N p hp).2⟩) hk hj ?_ ?_
  · intro hm
    exact absurd F.ns.lt ((List.mem_singleton.mp hm) ▸ Nat.lt_irrefl _)
  · exact next_is_new F
  · intro p hp hI
    exact absurd (Heap.lt_size (N p hp).1) (hI ▸ Nat.lt_irrefl _)
  · rintro i c v u nx oI h tk hi ⟨_, t, rfl⟩ hJ hI F₁ N₁
    have e1 : a₀ + (i : Int) * 1 = a₀ + (i : Int) := by omega
    rw [e1] at F₁
    exact turn i c t u nx _ oI h tk hi hJ hI F₁ N₁
  · exact done

theorem says_rest {names : List Str} {m₀ u : Str → Option Value} {ps : List (Str × Value)} {z : Str} (hn : names.contains z = false) (hp : ∀ p ∈ ps, names.contains p.1 = true) : fmap names m₀ u ps z = m₀ z := by
  induction ps with
  | nil => show (if names.contains z = true then u z else m₀ z) = m₀ z; rw [hn]; rfl
  | cons p r ih =>
    have h1 : z ≠ p.1 := fun e => by have := hp p (.head _); rw [← e, hn] at this; cases this
    show (if z = p.1 then some p.2 else kstB _ r z) = m₀ z
    rw [if_neg h1]
    exact ih fun q hq => hp q (.tail _ hq)
theorem not_name {names : List Str} {z : Str} (hn : names.contains z = false) (y : Str) (hy : names.contains y = true) : z ≠ y := fun e => by rw [e, hy] at hn; cases hn

noncomputable def Only (x : Str) (names : List Str) (m₀ m : Str → Option Value) : Prop := ∀ z, z ≠ x → names.contains z = false → m z = m₀ z
theorem only_base {names : List Str} {m₀ u : Str → Option Value} {ps : List (Str × Value)} (hp : ∀ p ∈ ps, names.contains p.1 = true) : Only x names m₀ (fmap names m₀ u ps) := fun _ _ hn => says_rest hn hp
theorem only_x {names : List Str} {m₀ m : Str → Option Value} {v : Option Value} (h : Only x names m₀ m) : Only x names m₀ (fun y => if y = x then v else m y) := fun z hz hn => (if_neg hz).trans (h z hz hn)
theorem only_store {names : List Str} {m₀ m : Str → Option Value} {y : Str} {v : Option Value} (hy : names.contains y = true) (h : Only x names m₀ m) : Only x names m₀ (fun z => if z = y then v else m z) := fun z hz hn => (if_neg (not_name hn y hy)).trans (h z hz hn)
end
end Mine

local macro_rules | `(tactic| k_room) => `(tactic| first | exact Mine.lt_fit2 (by with_reducible assumption) | ktr_room)
local macro_rules | `(tactic| k_units) => `(tactic| first | exact Nat.le_of_ble_eq_true rfl | exact Mine.lt_fit2 (by with_reducible assumption) | ktr_units)
local macro_rules | `(tactic| ktr_room) => `(tactic| exact Mine.lt_fit2 (by with_reducible assumption))
local macro_rules | `(tactic| ktr_units) => `(tactic| exact Mine.lt_fit2 (by with_reducible assumption))
local macro_rules | `(tactic| kmk_sign) => `(tactic| with_reducible first | assumption | (apply And.left; iterate 15 (try first | assumption | apply And.right)); done | (iterate 16 (try first | assumption | apply And.right)); done)
local macro_rules | `(tactic| k_ne) => `(tactic| (refine neN ?_; (try dsimp only); first | exact Nat.ne_of_gt (by kmk_sign) | exact Nat.ne_of_lt (by kmk_sign) | with_reducible assumption | exact Ne.symm (by with_reducible assumption) | omega))
local macro_rules | `(tactic| walk_at "CompSrc") => `(tactic| k_extra "CompSrc!")
local macro_rules | `(tactic| walk_at "CompEnd") => `(tactic| k_extra "CompEnd!")
local macro_rules | `(tactic| walk_at "call ref") => `(tactic| k_extra "call ref!")
local macro_rules | `(tactic| walk_at "eval ListComp") => `(tactic| k_extra "eval ListComp!")
local macro_rules | `(tactic| walk_at "pyIter ref") => `(tactic| k_extra "pyIter ref!")
local macro_rules | `(tactic| walk_at "subscriptTail") => `(tactic| k_extra "subscriptTail!")
local macro_rules | `(tactic| walk_at "binaryOp Mult int int") => `(tactic| k_extra "mul!")
local macro_rules | `(tactic| walk_at "compareOp NotEq ref ref") => `(tactic| k_extra "ne!")
local macro_rules | `(tactic| walk_at "call builtin:len") => `(tactic| k_extra "len!")
local macro_rules | `(tactic| walk_at "call type:list") => `(tactic| k_extra "tolist!")
local macro_rules | `(tactic| walk_at "binaryOp Add ref ref") => `(tactic| k_extra "addl!")
local macro_rules | `(tactic| walk_at "call builtin:dict.get") => `(tactic| k_extra "get!")
local macro_rules | `(tactic| walk_at "getMethod ref") => `(tactic| k_extra "getm!")
local macro_rules | `(tactic| walk_at "setItem ref ref") => `(tactic| k_extra "set!")
local macro_rules | `(tactic| walk_at "exec For Name Call cons nil") => `(tactic| k_extra "for!")
local macro_rules | `(tactic| walk_at "exec For Name Name cons nil") => `(tactic| k_extra "for!")
local macro_rules | `(tactic| walk_at "exec For Name Attribute cons nil") => `(tactic| k_extra "for!")
local macro_rules | `(tactic| walk_at "call builtin:list.append") => `(tactic| k_extra "append!")
local macro_rules | `(tactic| walk_at "exec Assign cons ListComp") => `(tactic| k_extra "comp!")
local macro_rules | `(tactic| walk_at "call type:enumerate") => `(tactic| k_extra "enum!")
local macro_rules | `(tactic| walk_at "subscriptTail Name Slice ref ref") => `(tactic| k_extra "slice!")
local macro_rules | `(tactic| walk_at "execs cons") => `(tactic| k_extra "execs!")
local macro_rules | `(tactic| walk_at "compareOp NotIn ref ref") => `(tactic| k_extra "notin!")
local macro_rules | `(tactic| walk_at "CompSrcT") => `(tactic| k_extra "CompSrcT!")
local macro_rules | `(tactic| walk_at "subscriptTail") => `(tactic| k_extra "item!")
local macro_rules | `(tactic| walk_at "compareOp Eq ref ref") => `(tactic| k_extra "eq!")
local macro_rules | `(tactic| walk_at "storeName") => `(tactic| k_extra "store!")

namespace Mine
theorem quietC1 : True := by
  w_top off
  trivial
open PySem PySem.W PyProof.Rows PySem.Spec PySem.Calls
set_option Elab.async false
set_option maxRecDepth 100000
set_option maxHeartbeats 8000000
theorem reorder1 {h₀ : Heap} {L : Addr} {h : Heap} {l l' : List (Addr × Obj)} (N : News h₀ L h l) (hs : ∀ p ∈ l', p ∈ l) : News h₀ L h l' := fun p hp => N p (hs p hp)

theorem baton_body {w : World} {mean : ExcName → Option Value} {mg mb : Str → Option Value}
    (dp un : Nat) (gd : Option (List Code)) (cn : Str) (cs : Scope) (a : Addr) (ccd : Value) (cl : List (Str × Addr)) (outer : List Env) (A₀ : Around) (base h₀ : Heap) (L : Addr) (m : Str → Option Value)
    (relay : Addr) (rest : List (Addr × Obj)) (r0 r1 : Int) (t0 t1 tm : Tok) (n : Nat) (mn : Int) (s : Shared) (Q E : Value → Shared → Prop)
    (B : Below A₀ base outer h₀) (F : Fr h₀ L s.heap m) (X : (hd.heap_39 w.params).In h₀)
    (N : News h₀ L s.heap ((relay, listOf #[.int r0 t0, .int r1 t1] n) :: rest)) (hO : OwnOff rest [relay])
    (T : Top hd.view_39 (looseW hd.view_39 []) mean mg mb h₀) (hk : cs.kind = .function)
    (hr1 : 0 ≤ r1) (hr2 : r1 < 70000) (hm1 : 0 < mn) (hm2 : mn < 100)
    (hdp : dp + 1 < recursionLimit) (hun : un + 8 < cLine)
    (hret : ∀ (told r0' r1' : Int) (t t0' t1' : Tok) (n' : Nat) (h' : Heap) (tk' : Nat), 0 ≤ told → told < mn → 0 ≤ r1' → r1' < 70000 → Fr h₀ L h' m →
      News h₀ L h' ((relay, listOf #[.int r0' t0', .int r1' t1'] n') :: rest) → Q (.int told t) { s with heap := h', toks := tk' }) :
    wpAny (model PySem.Challenge.rw_xm0819_01.row.prog w) (ktrTop dp un gd cn cs L a ccd cl outer) (call (.ref 200) [.ref relay, .int mn tm]) Q E s := by
  revert X; k_fill; intro X
  refine wpAny_call ?_
  k_dflt ktr_enter
  k_steps
  all_goals
    refine hret _ _ _ _ _ _ _ _ _ ?_ ?_ ?_ ?_ (by assumption) (by assumption)
  · show 0 ≤ Int.fmod r0 mn
    rw [Int.fmod_eq_emod_of_nonneg _ (Int.le_of_lt hm1)]; exact Int.emod_nonneg _ (by omega)
  · show Int.fmod r0 mn < mn
    rw [Int.fmod_eq_emod_of_nonneg _ (Int.le_of_lt hm1)]; exact Int.emod_lt_of_pos _ hm1
  · exact hr1
  · exact hr2
  · rw [Int.fmod_eq_emod_of_nonneg _ (Int.le_of_lt hm1)]; exact Int.emod_nonneg _ (by omega)
  · rw [Int.fmod_eq_emod_of_nonneg _ (Int.le_of_lt hm1)]; exact Int.emod_lt_of_pos _ hm1
  · rw [Int.fmod_eq_emod_of_nonneg _ (by decide)]; exact Int.emod_nonneg _ (by decide)
  · rw [Int.fmod_eq_emod_of_nonneg _ (by decide)]
    have := Int.emod_lt_of_pos (r1 * 109 + 4871) (show (0:Int) < 65123 by decide)
    show (r1 * 109 + 4871) % 65123 < 70000
    omega

theorem baton_step {w : World} {mean : ExcName → Option Value} {mg mb : Str → Option Value}
    {dp un : Nat} {gd : Option (List Code)} {cn : Str} {cs : Scope} {a : Addr} {ccd : Value} {cl : List (Str × Addr)} {outer : List Env} {A₀ : Around} {base h₀ : Heap} {L : Addr} {m : Str → Option Value}
    {relay : Addr} {news : List (Addr × Obj)} {g : Obj → List (Addr × Obj)} {r0 r1 : Int} {t0 t1 tm : Tok} {n : Nat} {mn : Int} {s : Shared} {Q E : Value → Shared → Prop}
    (B : Below A₀ base outer h₀) (F : Fr h₀ L s.heap m) (X : (hd.heap_39 w.params).In h₀)
    (N : News h₀ L s.heap news) (U : UpdF relay (listOf #[.int r0 t0, .int r1 t1] n) news g)
    (T : Top hd.view_39 (looseW hd.view_39 []) mean mg mb h₀) (hk : cs.kind = .function)
    (hr1 : 0 ≤ r1) (hr2 : r1 < 70000) (hm1 : 0 < mn) (hm2 : mn < 100)
    (hdp : dp + 1 < recursionLimit) (hun : un + 8 < cLine)
    (hret : ∀ (told r0' r1' : Int) (t t0' t1' : Tok) (n' : Nat) (h' : Heap) (tk' : Nat), 0 ≤ told → told < mn → 0 ≤ r1' → r1' < 70000 → Fr h₀ L h' m →
      News h₀ L h' (g (listOf #[.int r0' t0', .int r1' t1'] n')) → Q (.int told t) { s with heap := h', toks := tk' }) :
    wpAny (model PySem.Challenge.rw_xm0819_01.row.prog w) (ktrTop dp un gd cn cs L a ccd cl outer) (call (.ref 200) [.ref relay, .int mn tm]) Q E s := by
  obtain ⟨pre, post, e, hg, h1, h2⟩ := U.split
  subst e
  refine baton_body dp un gd cn cs a ccd cl outer A₀ base h₀ L m relay (pre ++ post) r0 r1 t0 t1 tm n mn s Q E B F X (reorder1 N fun p hp => ?_) (fun p hp b hb => ?_) T hk hr1 hr2 hm1 hm2 hdp hun fun told r0' r1' t t0' t1' n' h' tk' a1 a2 a3 a4 F' N' => ?_
  · revert p; (repeat' first | refine sub_a ?_ ?_ | refine sub_c ?_ ?_) <;> first | exact no_mem | kn_among | (intro q hq; kn_among)
  · rw [List.mem_singleton.mp hb]
    rcases List.mem_append.mp hp with h | h
    · exact h1 p h
    · exact h2 p h
  · refine hret told r0' r1' t t0' t1' n' h' tk' a1 a2 a3 a4 F' ?_
    rw [hg]
    refine reorder1 N' fun p hp => ?_
    revert p; (repeat' first | refine sub_a ?_ ?_ | refine sub_c ?_ ?_) <;> first | exact no_mem | kn_among | (intro q hq; kn_among)
end Mine

namespace Mine
theorem quietC2 : True := by
  w_top off
  trivial
open PySem PySem.W PyProof.Rows PySem.Spec PySem.Calls
set_option Elab.async false
set_option maxRecDepth 100000
set_option maxHeartbeats 8000000
theorem scan_step {w : World} {lp : Addr} {news : List (Addr × Obj)} {vs : List Value} {ps : List Int} {n : Nat} {st en hi lo : Int} {ta tb tc td : Tok}
    (hm : (lp, listOf vs.toArray n) ∈ news) (hI : IntsAre vs ps) (hl : ps.length < 100) :
    Step w 68 [.ref lp, .int st ta, .int en tb, .int hi tc, .int lo td] 3 news (fun v news' => ∃ r tl, v = .ref r ∧ news' = tl ++ news ∧ TbOff tl news ∧ ScanIn w.params ((lp, listOf vs.toArray n) :: tl) r ⟨ps, st, en, hi, lo⟩) := by
  unfold Step
  k_with_none
  k_fill
  intro mean mg mb dp un gd cn cs a ccd cl outer A₀ base h₀ L m s Q E B F X N T hk hdp hun hret
  refine wpAny_call ?_
  k_dflt ktr_enter
  k_with "exec Assign cons ListComp" => k_dflt (refine LCg.Assign_ListComp_U (F₀ := by k_asm) (by rfl) (by with_unfolding_all rfl) (by with_unfolding_all rfl) (by decide) (by rfl) (by decide) (by rfl) (by rfl) (by rfl) ?_)
  k_with "CompSrc" => (k_dflt (refine LCg.CompSrc.ledger (by rfl) (by k_asm) (by k_asm) (by k_mem) (by kcf_size) ?_); intro g'; refine' kcf_list slot hI (fun k' t' I' oI' C' oC' D' m' ys' h' tk' E' hk' hC' hx' F' N' off' ne' hMark' => ?_) ?_; (all_goals (try (simp only [LCg.Off3, and_true] at off'))); kcf_last)
  k_steps
  refine' hret _ _ _ _ ?post ?fr ?nw
  case nw => assumption
  case fr => assumption
  case post =>
    rename LCg.Off1 _ _ => o1
    rename (_ < _ ∧ _ < _ ∧ AllLt _ _) => l1
    rename @LT.lt Nat _ _ _ => l2
    rename (_ < _ ∧ AllLt _ _) => l0
    have e1 := ne_of_off1 o1
    refine ⟨_, [_, _, _, _], rfl, rfl, off_cons (ne_of_allLt (allLt_trans l2 l1.2.2)) (off_cons (ne_of_allLt l1.2.2) (off_cons (ne_of_allLt l0.2) (off_cons e1 off_nil))), ?_⟩
    exact ⟨_, _, _, _, _, _, _, _, _, _, _, _, _, _, _, _, _, _, _, _, _, _, .tail _ (.head _), .tail _ (.tail _ (.head _)), .head _, .tail _ (.tail _ (.tail _ (.tail _ (.head _)))), .tail _ (.tail _ (.tail _ (.head _))), hI, by assumption, by assumption⟩
end Mine

namespace Mine
theorem quietC3 : True := by
  w_top off
  trivial
open PySem PySem.W PyProof.Rows PySem.Spec PySem.Calls
set_option Elab.async false
set_option maxRecDepth 100000
set_option maxHeartbeats 400000
local macro_rules | `(tactic| k_mem) => `(tactic| first | exact List.mem_cons_self | (refine List.mem_cons_of_mem _ ?_; k_mem) | (refine List.mem_append.mpr (Or.inr ?_); k_mem) | (refine List.mem_append.mpr (Or.inl ?_); k_mem) | ktr_member)
local macro_rules | `(tactic| ktr_enter) => `(tactic| (refine' code_defC ?k1 ?k2 ?k3 ?k4 ?k5 ?kA ?kF ?kK ?k6 ?k7 ?k8 ?k9 ?kB ?kD ?_ ?c2 ?c3 ?c4; (case kA => exact rfl); (case kF => exact rfl); (case kK => assumption); (case k1 => k_asm); (case k2 => k_asm); (case k3 => k_asm); (case k4 => k_asm); (case k5 => k_asm); (case k6 => k_is); (case k7 => k_is); (case k8 => k_room); (case k9 => exact BindsTo.of_eq rfl); (case kB => exact rfl); (case kD => decide +kernel); (case c2 => exact rfl); (case c3 => exact rfl); (case c4 => exact rfl); k_whole; intro g' L' h' tk' cells' FG' F' N' Y' B' X' T' l1; (try k_lt l1); k_cells Y'; (try simp only [List.cons_append, List.nil_append] at N'); (try dsimp only); (try k_fold)))

noncomputable def acOut (ps : List Int) (st en hi lo : Int) : List Sc := if st > en then [] else ps.map fun p => ⟨[p], st, en, hi, lo⟩
theorem ac_step {w : World} {lp : Addr} {news : List (Addr × Obj)} {vs : List Value} {ps : List Int} {n : Nat} {st en hi lo : Int} {ta tb tc td : Tok}
    (hm : (lp, listOf vs.toArray n) ∈ news) (hI : IntsAre vs ps) (hl : ps.length < 100) :
    Step w 85 [.ref lp, .int st ta, .int en tb, .int hi tc, .int lo td] 4 news (fun v news' => ∃ r vs' k, v = .ref r ∧ Ext news news' ∧ (r, listOf vs'.toArray k) ∈ news' ∧ AreScans w.params news' vs' (acOut ps st en hi lo)) := by
  unfold Step
  k_with_none
  k_fill
  intro mean mg mb dp un gd cn cs a ccd cl outer A₀ base h₀ L m s Q E B F X N T hk hdp hun hret
  refine wpAny_call ?_
  k_dflt ktr_enter
  k_with "eval ListComp!" => k_dflt (refine LCg.ListComp_U (F₀ := by k_asm) (by with_unfolding_all rfl) (by decide) (by rfl) (by decide) (by rfl) ?_)
  k_with "CompSrc!" => k_dflt ((refine' LCg.CompSrc.ledger ?e1 ?e2 ?e3 ?e4 ?e5 ?_; (case e1 => rfl); (case e2 => k_asm); (case e3 => k_asm); (case e4 => k_mem); (case e5 => kcf_size); intro g'; refine' rest_inv (fun i ys nw => Ext ?nw1 nw ∧ AreScans w.params nw ys ((ps.take i).map fun p => ⟨[p], st, en, hi, lo⟩)) ⟨.nil, .nil⟩ (fun i ys nw v I' oI' C' oC' D' m' h' tk' E' hi' hv hJ hC' hx' F' N' off' ne' => ?turn) (fun ys nw hJ => ?fin); (case' turn => (obtain ⟨⟨tl, rfl, ht⟩, hs⟩ := hJ; obtain ⟨k, t, rfl, hk'⟩ := IntsAre.at hI i v (by simpa using hv))); (case' fin => (obtain ⟨⟨tl, rfl, ht⟩, hs⟩ := hJ)); (all_goals (try k_fold))))
  k_with "call ref!" => k_dflt ((refine' Step.use ?k1 ?k2 ?k3 ?k4 ?k5 ?kK (scan_step ?kM ?kI ?kL) ?kd ?ku ?_; (case k1 => k_asm); (case k2 => k_asm); (case k3 => k_asm); (case k4 => k_asm); (case k5 => k_asm); (case kK => first | exact rfl | assumption); (case kM => k_mem); (case kI => exact .cons _ _ .nil); (case kL => first | exact (by decide : (1 : Nat) < 100) | omega); (case kd => ktr_room); (case ku => ktr_units); intro v9 n9 h9 tk9 hp9 F9 N9; (try dsimp only); (try k_fold)))
  k_steps
  · refine' hret _ _ _ _ ?post ?fr ?nw
    case nw => assumption
    case fr => assumption
    case post =>
      rename en < st => hlt
      rename (_ < _ ∧ _ < _ ∧ _ < _ ∧ _ < _ ∧ AllLt _ _) => l2
      rename (∀ p ∈ news, _ < _) => l1
      have e : acOut ps st en hi lo = [] := if_pos hlt
      rw [e]
      exact ⟨_, [], _, rfl, .cons (ne_of_allLt l2.2.2.2.2) (.cons (fun q hq => ne_up 4 (l1 q hq)) (.cons (fun q hq => ne_up 3 (l1 q hq)) (.cons (fun q hq => ne_up 2 (l1 q hq)) (.cons (fun q hq => ne_up 1 (l1 q hq)) .nil)))), .head _, .nil⟩
  · refine' hret _ _ _ _ ?post ?fr ?nw
    case nw => assumption
    case fr => assumption
    case post =>
      rename ¬ en < st => hlt
      rename (∀ p ∈ news, _ < _) => l1
      rename LCg.Off1 _ _ => o1
      have e : acOut ps st en hi lo = ps.map fun p => ⟨[p], st, en, hi, lo⟩ := if_neg hlt
      have hsz : vs.toArray.size = ps.length := by rw [List.size_toArray]; exact hI.length
      rw [hsz, List.take_length] at hs
      rw [e]
      exact ⟨_, _, _, rfl, .cons (fun q hq => ne_of_off1 o1 q (by simp [hq])) (.app (off_right ht (by (repeat' first | refine sub_a ?_ ?_ | refine sub_c ?_ ?_) <;> first | exact no_mem | kn_among | (intro q hq; kn_among))) (.cons (fun q hq => ne_up 4 (l1 q hq)) (.cons (fun q hq => ne_up 3 (l1 q hq)) (.cons (fun q hq => ne_up 2 (l1 q hq)) (.cons (fun q hq => ne_up 1 (l1 q hq)) .nil))))), .head _, hs.mono sub_cons⟩
  · obtain ⟨r9, tl9, rfl, rfl, ho9, hs9⟩ := hp9
    rename (_ < _ ∧ _ < _ ∧ _ < _ ∧ AllLt _ _) => l2
    refine comp_end F9 N9 off' ⟨Nat.ne_of_gt l2.1, Nat.ne_of_gt l2.2.1, Nat.ne_of_gt l2.2.2.1⟩ ho9 ?_ ?_
    · exact .inr ⟨_, sub_app _ (sub_cons _ (sub_app _ (sub_cons _ (sub_cons _ (sub_cons _ (sub_cons _ hm)))))), rfl, _, rfl⟩
    · have ln := ne_of_allLt l2.2.2.2
      refine ⟨.app (off_right ho9 (by (repeat' first | refine sub_a ?_ ?_ | refine sub_c ?_ ?_) <;> first | exact no_mem | kn_among | (intro q hq; kn_among))) (.cons (fun q hq => ln q (by simp [hq])) (.app ht .nil)), ?_⟩
      rw [take_snoc hk', List.map_append]
      refine AreScans.append (hs.mono ?_) (.cons (hs9.mono ?_) .nil)
      · (repeat' first | refine sub_a ?_ ?_ | refine sub_c ?_ ?_) <;> first | exact no_mem | kn_among | (intro q hq; kn_among)
      · (repeat' first | refine sub_a ?_ ?_ | refine sub_c ?_ ?_) <;> first | exact no_mem | kn_among | (intro q hq; kn_among)
end Mine

namespace Mine
theorem quietC4 : True := by
  w_top off
  trivial
open PySem PySem.W PyProof.Rows PySem.Spec PySem.Calls
set_option Elab.async false
set_option maxRecDepth 100000
set_option maxHeartbeats 2000000
local macro_rules | `(tactic| k_mem) => `(tactic| first | exact List.mem_cons_self | (refine List.mem_cons_of_mem _ ?_; k_mem) | (refine List.mem_append.mpr (Or.inr ?_); k_mem) | (refine List.mem_append.mpr (Or.inl ?_); k_mem) | ktr_member)

structure Gst where
  f : Addr
  hr : Addr
  fv : List Value
  hv : List Value
  nf : Nat
  nh : Nat
  sm : Int
  tk : Tok
noncomputable def hereOf : Nat → List Int
  | 0 => []
  | 1 => [0]
  | 2 => [0, 1]
  | 3 => [0, 1, 2]
  | 4 => [0, 1, 2, 3]
  | _ => [4]
theorem here0 {vs : List Value} (h : IntsAre vs (hereOf 0)) : vs = [] := ints_nil h
theorem here1 {vs : List Value} (h : IntsAre vs (hereOf 1)) : ∃ a, vs = [.int 0 a] := by
  obtain ⟨a, v, rfl, h1⟩ := ints_cons h
  obtain rfl := ints_nil h1
  exact ⟨a, rfl⟩
theorem here2 {vs : List Value} (h : IntsAre vs (hereOf 2)) : ∃ a b, vs = [.int 0 a, .int 1 b] := by
  obtain ⟨a, v, rfl, h1⟩ := ints_cons h
  obtain ⟨b, v, rfl, h2⟩ := ints_cons h1
  obtain rfl := ints_nil h2
  exact ⟨a, b, rfl⟩
theorem here3 {vs : List Value} (h : IntsAre vs (hereOf 3)) : ∃ a b c, vs = [.int 0 a, .int 1 b, .int 2 c] := by
  obtain ⟨a, v, rfl, h1⟩ := ints_cons h
  obtain ⟨b, v, rfl, h2⟩ := ints_cons h1
  obtain ⟨c, v, rfl, h3⟩ := ints_cons h2
  obtain rfl := ints_nil h3
  exact ⟨a, b, c, rfl⟩
theorem here4 {vs : List Value} (h : IntsAre vs (hereOf 4)) : ∃ a b c d, vs = [.int 0 a, .int 1 b, .int 2 c, .int 3 d] := by
  obtain ⟨a, v, rfl, h1⟩ := ints_cons h
  obtain ⟨b, v, rfl, h2⟩ := ints_cons h1
  obtain ⟨c, v, rfl, h3⟩ := ints_cons h2
  obtain ⟨d, v, rfl, h4⟩ := ints_cons h3
  obtain rfl := ints_nil h4
  exact ⟨a, b, c, d, rfl⟩
theorem groups_le {n : Nat} (h1 : 1 ≤ n) (h4 : n ≤ 4) : groupsOf n = [hereOf n] := by
  have h : n = 1 ∨ n = 2 ∨ n = 3 ∨ n = 4 := by omega
  rcases h with rfl | rfl | rfl | rfl <;> rfl
noncomputable def Gj (news : List (Addr × Obj)) (i : Nat) (c : Gst) (nx : List (Addr × Obj)) : Prop :=
  ∃ gl, nx = (c.hr, listOf c.hv.toArray c.nh) :: (c.f, listOf c.fv.toArray c.nf) :: (gl ++ news) ∧ (@Ne Nat c.hr c.f) ∧ TbOff gl [(c.hr, default), (c.f, default)] ∧ TbOff gl news ∧ (∀ q ∈ news, c.hr ≠ q.1) ∧ (∀ q ∈ news, c.f ≠ q.1) ∧
    IntsAre c.hv (hereOf i) ∧ 0 ≤ c.sm ∧ c.sm ≤ 2 * (i : Int) ∧ (i ≤ 4 → gl = [] ∧ c.fv = []) ∧ (5 ≤ i → ∃ g gv n, gl = [(g, listOf gv.toArray n)] ∧ IntsAre gv [0, 1, 2, 3] ∧ c.fv = [.ref g])

theorem groups_step {w : World} {news : List (Addr × Obj)} {fr : Addr} {cps : List Cp} {side : Int} (hF : FrameIn w.params news fr cps side) (hc1 : 1 ≤ cps.length) (hc2 : cps.length ≤ 5) :
    Step w 75 [.ref fr] 12 news (fun v news' => ∃ r vs k, v = .ref r ∧ Ext news news' ∧ (r, listOf vs k) ∈ news' ∧ AreLists news' vs.toList (groupsOf cps.length)) := by
  unfold Step
  k_with_none
  k_fill
  intro mean mg mb dp un gd cn cs a ccd cl outer A₀ base h₀ L m s Q E B F X N T hk hdp hun hret
  obtain ⟨fd, cl', k1, k2, k3, k4, k5, k6, t1, t2, t3, t4, t6, n, m', hf, hd', hcl, hcp, hsm⟩ := hF
  have hlen : (cps.map fun q => Value.ref q.c).length = cps.length := List.length_map ..
  have hcc : True → 1 ≤ cps.length ∧ cps.length ≤ 5 := fun _ => ⟨hc1, hc2⟩
  clear hc1 hc2
  refine wpAny_call ?_
  k_dflt ktr_enter
  k_with "len!" => k_dflt ((refine' kun_lenL (items := (cps.map fun q => Value.ref q.c).toArray) (k := cps.length) ?k1 ?k2 ?k3 ?_; (case k1 => exact News.isList (by k_asm) (by k_mem)); (case k2 => first | omega | (rw [List.size_toArray, hlen])); (case k3 => (have hc9 := hcc trivial; omega)); (try dsimp only)))
  k_with "mul!" => k_dflt (refine cp_mul hbq ?_; intro lo9 hi9)
  k_with "subscriptTail!" => k_dflt (refine' item_ref ?e1 ?e2 ?e3 ?e4 ?e5 ?_; (case e1 => k_asm); (case e2 => k_mem); (case e3 => omega); (case e4 => omega); (case e5 => exact hq'); k_whole; (try dsimp only))
  k_with "ne!" => k_dflt (refine' ne_intsK ?k1 ?k2 ?k3 ?k4 ?k5 ?_; (case k1 => is_list); (case k2 => l_intsC); (case k3 => is_list); (case k4 => l_intsC); (case k5 => ktr_units); k_whole; (try dsimp only))
  k_with "pyIter ref!" => k_dflt (
    refine' for_range (n := cps.length) (σ := Gst) [Str.ofString "found", Str.ofString "here", Str.ofString "many", Str.ofString "more"] (fun c => [(Str.ofString "found", .ref c.f), (Str.ofString "here", .ref c.hr), (Str.ofString "many", .int c.sm c.tk)]) (Gj news) ⟨_, _, [], [], 0, 0, 0, _⟩ ?e1 ?e2 ?e3 ?e4 ?e5 (reorder ?e6 ?e6b) ?e7 ?e8 ?turn ?done
    case e1 => rfl
    case e2 => assumption
    case e3 => (have hc9 := hcc trivial; exact small_one (by omega) (by omega) (by omega) (by omega))
    case e4 => exact rangeSize_nat _ _
    case e5 => k_asm
    case e7 => exact all3 (by dsimp only; exact rfl) (by dsimp only; exact rfl) (by dsimp only; exact rfl)
    case e6 => k_asm
    case e8 =>
      rename (_ < _ ∧ AllLt _ _) => lA
      rename (∀ p ∈ news, _ < _) => lB
      exact ⟨[], rfl, Nat.ne_of_gt lA.1, off_nil, off_nil, ne_of_allLt lA.2, (fun q hq => Nat.ne_of_gt (lB q hq)), .nil, (show (0 : Int) ≤ 0 by decide), (show (0 : Int) ≤ 2 * 0 by decide), fun _ => ⟨rfl, rfl⟩, fun h => absurd h (by decide)⟩
    case e6b => exact fun p hp => .tail _ hp
    case' turn =>
      intro i c t u nx I oI h tk hi hJ hI F1 N1
      obtain ⟨f, hr, fv, hv, nf, nh, sm, tkm⟩ := c
      obtain ⟨gl, rfl, hne, hg1, hg2, ho1, ho2, hints, hs0, hs1, hl4, hl5⟩ := hJ
      dsimp only at *
      have hq := List.getElem?_eq_getElem hi
      generalize cps[i] = q at hq
      have hcq := hcp q (List.mem_of_getElem? hq)
      have hbq := hsm q (List.mem_of_getElem? hq)
      have hq' : (cps.map fun q => Value.ref q.c).toArray[((0 : Int) + ((i : Nat) : Int)).toNat]? = some (.ref q.c) := by simp [hq]
      obtain ⟨i1, c1, c2, c3, c4, c5, c6, c7, c8, c9, f0, f1⟩ := hcq
      have hc9 := hcc trivial
      have hi5 : i = 0 ∨ i = 1 ∨ i = 2 ∨ i = 3 ∨ i = 4 := by omega
      clear hc9
      have hIh : @Ne Nat I hr := fun e => hI _ (.head _) e.symm
      have hIf : @Ne Nat I f := fun e => hI _ (.tail _ (.head _)) e.symm
      have hof : OwnOff news [f, hr] := fun p hp b hb => by
        rcases List.mem_cons.mp hb with rfl | hb
        · exact Ne.symm (ho2 p hp)
        · rw [List.mem_singleton.mp hb]; exact Ne.symm (ho1 p hp)
      obtain ⟨rfl, rfl⟩ := hl4 (by omega)
      rcases hi5 with rfl | rfl | rfl | rfl | rfl
      all_goals first | obtain rfl := here0 hints | obtain ⟨x0, rfl⟩ := here1 hints | obtain ⟨x0, x1, rfl⟩ := here2 hints | obtain ⟨x0, x1, x2, rfl⟩ := here3 hints | obtain ⟨x0, x1, x2, x3, rfl⟩ := here4 hints
    case' done =>
      intro c u nx h tk hJ F1 N1
      obtain ⟨f, hr, fv, hv, nf, nh, sm, tkm⟩ := c
      obtain ⟨gl, rfl, hne, hg1, hg2, ho1, ho2, hints, hs0, hs1, hl4, hl5⟩ := hJ
      dsimp only at *
      have hof : OwnOff news [f, hr] := fun p hp b hb => by
        rcases List.mem_cons.mp hb with rfl | hb
        · exact Ne.symm (ho2 p hp)
        · rw [List.mem_singleton.mp hb]; exact Ne.symm (ho1 p hp)
      have hc9 := hcc trivial
      have key : (gl = [] ∧ fv = [] ∧ cps.length ≤ 4) ∨ ∃ g gv n, gl = [(g, listOf gv.toArray n)] ∧ IntsAre gv [0, 1, 2, 3] ∧ fv = [.ref g] ∧ (@Ne Nat f g) ∧ cps.length = 5 := by
        by_cases h4 : cps.length ≤ 4
        · exact .inl ⟨(hl4 h4).1, (hl4 h4).2, h4⟩
        · obtain ⟨g, gv, n, hg, k1, k2⟩ := hl5 (by omega)
          refine .inr ⟨g, gv, n, hg, k1, k2, fun e => hg1 (g, listOf gv.toArray n) (by rw [hg]; exact .head _) (f, default) (.tail _ (.head _)) e.symm, by omega⟩
      clear hc9 hl4 hl5
      rcases key with ⟨rfl, rfl, h4⟩ | ⟨g, gv, ng, rfl, hgv, rfl, hfg, h4⟩
      all_goals (try simp only [List.nil_append, List.cons_append] at N1)
    all_goals (try k_fold))
  k_steps
  · refine' hret _ _ _ _ ?post ?fr ?nw
    case nw => assumption
    case fr => assumption
    case post =>
      have hc9 := hcc trivial
      rw [groups_le hc9.1 h4]
      exact ⟨_, _, _, rfl, .cons ho1 (.cons ho2 .nil), .tail _ (.head _), .cons (.head _) hints .nil⟩
  · refine' hret _ _ _ _ ?post ?fr ?nw
    case nw => assumption
    case fr => assumption
    case post =>
      rw [h4] at hints ⊢
      exact ⟨_, _, _, rfl, .cons ho1 (.cons ho2 (.cons (fun q hq => hg2 _ (.head _) q hq) .nil)), .tail _ (.head _), .cons (.tail _ (.tail _ (.head _))) hgv (.cons (.head _) hints .nil)⟩
  · rename (_ < _ ∧ _ < _ ∧ _ < _ ∧ _ < _ ∧ _ < _ ∧ AllLt _ _) => lZ
    refine' (show LEnd _ _ _ _ _ _ _ from LEnd.intro ?F ?N ?mem ?sub ?off ⟨⟨f, _, [], [.int (0 + ((0 : Nat) : Int)) t], nf, 0, _, _⟩, ?J, ?says⟩)
    case F => assumption
    case N => assumption
    case says =>
      dsimp only
      refine' ⟨all3 ?p1 ?p2 ?p3, (?p4 : Only _ _ _ _)⟩
      case p1 => (dsimp only; exact rfl)
      case p2 => (dsimp only; exact rfl)
      case p3 => (dsimp only; exact rfl)
      case p4 => repeat first | (refine only_base ?_; exact all3 rfl rfl rfl) | refine only_x ?_ | refine only_store rfl ?_
    case J =>
      exact ⟨[], rfl, Nat.ne_of_gt lZ.2.2.2.2.1, off_nil, off_nil, ne_of_allLt lZ.2.2.2.2.2, ho2, (.cons 0 _ .nil), (by dsimp only; omega), (by dsimp only; omega), fun _ => ⟨rfl, rfl⟩, fun h => absurd h (by decide)⟩
    case mem => k_mem
    case sub => (intro p hp; rcases List.mem_cons.mp hp with rfl | hp; exact .head _; rcases List.mem_cons.mp hp with rfl | hp; exact (.tail _ (.tail _ (.tail _ (.tail _ (.tail _ (.head _)))))); exact (.tail _ (.tail _ (.tail _ (.tail _ (.tail _ (.tail _ hp)))))))
    case off => (intro p hp; rcases List.mem_cons.mp hp with rfl | hp; exact Nat.ne_of_gt lZ.2.2.1; rcases List.mem_cons.mp hp with rfl | hp; exact Ne.symm hIf; exact hI p (.tail _ (.tail _ hp)))
  · rename (_ < _ ∧ _ < _ ∧ _ < _ ∧ _ < _ ∧ _ < _ ∧ AllLt _ _) => lZ
    refine' (show LEnd _ _ _ _ _ _ _ from LEnd.intro ?F ?N ?mem ?sub ?off ⟨⟨f, _, [], [.int 0 x0, .int (0 + ((1 : Nat) : Int)) t], nf, 0, _, _⟩, ?J, ?says⟩)
    case F => assumption
    case N => assumption
    case says =>
      dsimp only
      refine' ⟨all3 ?p1 ?p2 ?p3, (?p4 : Only _ _ _ _)⟩
      case p1 => (dsimp only; exact rfl)
      case p2 => (dsimp only; exact rfl)
      case p3 => (dsimp only; exact rfl)
      case p4 => repeat first | (refine only_base ?_; exact all3 rfl rfl rfl) | refine only_x ?_ | refine only_store rfl ?_
    case J =>
      exact ⟨[], rfl, Nat.ne_of_gt lZ.2.2.2.2.1, off_nil, off_nil, ne_of_allLt lZ.2.2.2.2.2, ho2, (.cons 0 _ (.cons 1 _ .nil)), (by dsimp only; omega), (by dsimp only; omega), fun _ => ⟨rfl, rfl⟩, fun h => absurd h (by decide)⟩
    case mem => k_mem
    case sub => (intro p hp; rcases List.mem_cons.mp hp with rfl | hp; exact .head _; rcases List.mem_cons.mp hp with rfl | hp; exact (.tail _ (.tail _ (.tail _ (.tail _ (.tail _ (.head _)))))); exact (.tail _ (.tail _ (.tail _ (.tail _ (.tail _ (.tail _ hp)))))))
    case off => (intro p hp; rcases List.mem_cons.mp hp with rfl | hp; exact Nat.ne_of_gt lZ.2.2.1; rcases List.mem_cons.mp hp with rfl | hp; exact Ne.symm hIf; exact hI p (.tail _ (.tail _ hp)))
  · rename (_ < _ ∧ _ < _ ∧ _ < _ ∧ _ < _ ∧ _ < _ ∧ AllLt _ _) => lZ
    refine' (show LEnd _ _ _ _ _ _ _ from LEnd.intro ?F ?N ?mem ?sub ?off ⟨⟨f, _, [], [.int 0 x0, .int 1 x1, .int (0 + ((2 : Nat) : Int)) t], nf, 0, _, _⟩, ?J, ?says⟩)
    case F => assumption
    case N => assumption
    case says =>
      dsimp only
      refine' ⟨all3 ?p1 ?p2 ?p3, (?p4 : Only _ _ _ _)⟩
      case p1 => (dsimp only; exact rfl)
      case p2 => (dsimp only; exact rfl)
      case p3 => (dsimp only; exact rfl)
      case p4 => repeat first | (refine only_base ?_; exact all3 rfl rfl rfl) | refine only_x ?_ | refine only_store rfl ?_
    case J =>
      exact ⟨[], rfl, Nat.ne_of_gt lZ.2.2.2.2.1, off_nil, off_nil, ne_of_allLt lZ.2.2.2.2.2, ho2, (.cons 0 _ (.cons 1 _ (.cons 2 _ .nil))), (by dsimp only; omega), (by dsimp only; omega), fun _ => ⟨rfl, rfl⟩, fun h => absurd h (by decide)⟩
    case mem => k_mem
    case sub => (intro p hp; rcases List.mem_cons.mp hp with rfl | hp; exact .head _; rcases List.mem_cons.mp hp with rfl | hp; exact (.tail _ (.tail _ (.tail _ (.tail _ (.tail _ (.head _)))))); exact (.tail _ (.tail _ (.tail _ (.tail _ (.tail _ (.tail _ hp)))))))
    case off => (intro p hp; rcases List.mem_cons.mp hp with rfl | hp; exact Nat.ne_of_gt lZ.2.2.1; rcases List.mem_cons.mp hp with rfl | hp; exact Ne.symm hIf; exact hI p (.tail _ (.tail _ hp)))
  · rename (_ < _ ∧ _ < _ ∧ _ < _ ∧ _ < _ ∧ _ < _ ∧ AllLt _ _) => lZ
    refine' (show LEnd _ _ _ _ _ _ _ from LEnd.intro ?F ?N ?mem ?sub ?off ⟨⟨f, _, [], [.int 0 x0, .int 1 x1, .int 2 x2, .int (0 + ((3 : Nat) : Int)) t], nf, 0, _, _⟩, ?J, ?says⟩)
    case F => assumption
    case N => assumption
    case says =>
      dsimp only
      refine' ⟨all3 ?p1 ?p2 ?p3, (?p4 : Only _ _ _ _)⟩
      case p1 => (dsimp only; exact rfl)
      case p2 => (dsimp only; exact rfl)
      case p3 => (dsimp only; exact rfl)
      case p4 => repeat first | (refine only_base ?_; exact all3 rfl rfl rfl) | refine only_x ?_ | refine only_store rfl ?_
    case J =>
      exact ⟨[], rfl, Nat.ne_of_gt lZ.2.2.2.2.1, off_nil, off_nil, ne_of_allLt lZ.2.2.2.2.2, ho2, (.cons 0 _ (.cons 1 _ (.cons 2 _ (.cons 3 _ .nil)))), (by dsimp only; omega), (by dsimp only; omega), fun _ => ⟨rfl, rfl⟩, fun h => absurd h (by decide)⟩
    case mem => k_mem
    case sub => (intro p hp; rcases List.mem_cons.mp hp with rfl | hp; exact .head _; rcases List.mem_cons.mp hp with rfl | hp; exact (.tail _ (.tail _ (.tail _ (.tail _ (.tail _ (.head _)))))); exact (.tail _ (.tail _ (.tail _ (.tail _ (.tail _ (.tail _ hp)))))))
    case off => (intro p hp; rcases List.mem_cons.mp hp with rfl | hp; exact Nat.ne_of_gt lZ.2.2.1; rcases List.mem_cons.mp hp with rfl | hp; exact Ne.symm hIf; exact hI p (.tail _ (.tail _ hp)))
  · rename (_ < _ ∧ _ < _ ∧ _ < _ ∧ _ < _ ∧ _ < _ ∧ _ < _ ∧ _ < _ ∧ AllLt _ _) => lZ
    refine' (show LEnd _ _ _ _ _ _ _ from LEnd.intro ?F ?N ?mem ?sub ?off ⟨⟨f, _, [.ref hr], [.int (0 + ((4 : Nat) : Int)) t], nf + 1, 0, _, _⟩, ?J, ?says⟩)
    case F => assumption
    case N => assumption
    case says =>
      dsimp only
      refine' ⟨all3 ?p1 ?p2 ?p3, (?p4 : Only _ _ _ _)⟩
      case p1 => (dsimp only; exact rfl)
      case p2 => (dsimp only; exact rfl)
      case p3 => (dsimp only; exact rfl)
      case p4 => repeat first | (refine only_base ?_; exact all3 rfl rfl rfl) | refine only_x ?_ | refine only_store rfl ?_
    case J =>
      exact ⟨[(hr, listOf [Value.int 0 x0, Value.int 1 x1, Value.int 2 x2, Value.int 3 x3].toArray nh)], rfl, Nat.ne_of_gt lZ.2.2.2.2.2.2.1, off_cons (fun q hq => by rcases List.mem_cons.mp hq with rfl | hq; exact Nat.ne_of_lt lZ.2.2.2.2.2.1; rw [List.mem_singleton.mp hq]; exact hne) off_nil, off_cons ho1 off_nil, ne_of_allLt lZ.2.2.2.2.2.2.2, ho2, (.cons 4 _ .nil), (by dsimp only; omega), (by dsimp only; omega), fun h => absurd h (by decide), fun _ => ⟨_, _, _, rfl, .cons 0 _ (.cons 1 _ (.cons 2 _ (.cons 3 _ .nil))), rfl⟩⟩
    case mem => k_mem
    case sub => (intro p hp; rcases List.mem_cons.mp hp with rfl | hp; exact .head _; rcases List.mem_cons.mp hp with rfl | hp; exact (.tail _ (.tail _ (.tail _ (.tail _ (.tail _ (.tail _ (.tail _ (.head _)))))))); rcases List.mem_cons.mp hp with rfl | hp; exact (.tail _ (.tail _ (.tail _ (.tail _ (.tail _ (.tail _ (.head _))))))); exact (.tail _ (.tail _ (.tail _ (.tail _ (.tail _ (.tail _ (.tail _ (.tail _ hp)))))))))
    case off => (intro p hp; rcases List.mem_cons.mp hp with rfl | hp; exact Nat.ne_of_gt lZ.2.2.2.2.1; rcases List.mem_cons.mp hp with rfl | hp; exact Ne.symm hIf; rcases List.mem_cons.mp hp with rfl | hp; exact Ne.symm hIh; exact hI p (.tail _ (.tail _ hp)))
end Mine

namespace Mine
theorem quietC5 : True := by
  w_top off
  trivial
open PySem PySem.W PyProof.Rows PySem.Spec PySem.Calls
set_option Elab.async false
set_option maxRecDepth 100000
set_option maxHeartbeats 2000000
local macro_rules | `(tactic| k_mem) => `(tactic| first | exact List.mem_cons_self | ktr_member | (refine List.mem_cons_of_mem _ ?_; k_mem) | (refine List.mem_append.mpr (Or.inr ?_); k_mem) | (refine List.mem_append.mpr (Or.inl ?_); k_mem))
local macro_rules | `(tactic| ktr_enter) => `(tactic| (refine' code_defC ?k1 ?k2 ?k3 ?k4 ?k5 ?kA ?kF ?kK ?k6 ?k7 ?k8 ?k9 ?kB ?kD ?_ ?c2 ?c3 ?c4; (case kA => exact rfl); (case kF => exact rfl); (case kK => assumption); (case k1 => k_asm); (case k2 => k_asm); (case k3 => k_asm); (case k4 => k_asm); (case k5 => k_asm); (case k6 => k_is); (case k7 => k_is); (case k8 => k_room); (case k9 => exact BindsTo.of_eq rfl); (case kB => exact rfl); (case kD => decide +kernel); (case c2 => exact rfl); (case c3 => exact rfl); (case c4 => exact rfl); k_whole; intro g' L' h' tk' cells' FG' F' N' Y' B' X' T' l1; (try k_lt l1); k_cells Y'; (try simp only [List.cons_append, List.nil_append] at N'); (try dsimp only); (try k_fold)))

theorem AreLists.at {news : List (Addr × Obj)} {vs : List Value} {gs : List (List Int)} (h : AreLists news vs gs) {i : Nat} {v : Value} (hi : vs[i]? = some v) : ∃ a ws n g, v = .ref a ∧ (a, listOf ws.toArray n) ∈ news ∧ IntsAre ws g ∧ gs[i]? = some g := by
  obtain ⟨g, ⟨a, ws, n, e, hm, hg⟩, hq⟩ := pr_at h hi
  exact ⟨a, ws, n, g, e, hm, hg, hq⟩
theorem AreLists.length {news : List (Addr × Obj)} {vs : List Value} {gs : List (List Int)} (h : AreLists news vs gs) : vs.length = gs.length := Paired.length h
theorem groups_short (m : Nat) : (groupsOf m).length < 100 ∧ ∀ g ∈ groupsOf m, g.length < 100 := by
  unfold groupsOf
  split <;> simp
noncomputable def dcOut (m : Nat) (hi lo : Int) : List Sc := (groupsOf m).map fun g => ⟨g, 0, 0, hi, lo⟩
theorem dc_step {w : World} {news : List (Addr × Obj)} {fr : Addr} {cps : List Cp} {side : Int} {hi lo : Int} {tc td : Tok} (hF : FrameIn w.params news fr cps side) (hc1 : 1 ≤ cps.length) (hc2 : cps.length ≤ 5) :
    Step w 80 [.ref fr, .int hi tc, .int lo td] 14 news (fun v news' => ∃ r vs k, v = .ref r ∧ Ext news news' ∧ (r, listOf vs.toArray k) ∈ news' ∧ AreScans w.params news' vs (dcOut cps.length hi lo)) := by
  unfold Step
  k_with_none
  k_fill
  intro mean mg mb dp un gd cn cs a ccd cl outer A₀ base h₀ L m s Q E B F X N T hk hdp hun hret
  have hgs := groups_short cps.length
  refine wpAny_call ?_
  k_dflt ktr_enter
  k_with "eval ListComp!" => k_dflt (refine LCg.ListComp_U (F₀ := by k_asm) (by with_unfolding_all rfl) (by decide) (by rfl) (by decide) (by rfl) ?_)
  k_with "call ref!" => k_dflt (
    refine' Step.use ?k1 ?k2 ?k3 ?k4 ?k5 ?kK (scan_step ?kM ?kI ?kL) ?kd ?ku ?_
    case k1 => k_asm
    case k2 => k_asm
    case k3 => k_asm
    case k4 => k_asm
    case k5 => k_asm
    case kK => first | exact rfl | assumption
    case kM => k_mem
    case kI => assumption
    case kL => assumption
    case kd => ktr_room
    case ku => ktr_units
    intro v9 n9 h9 tk9 hp9 F9 N9
    try dsimp only
    try k_fold)
  k_with "call ref!" => k_dflt (
    refine' Step.use ?k1 ?k2 ?k3 ?k4 ?k5 ?kK (groups_step ?kF ?kM ?kL) ?kd ?ku ?_
    case k1 => k_asm
    case k2 => k_asm
    case k3 => k_asm
    case k4 => k_asm
    case k5 => k_asm
    case kK => first | exact rfl | assumption
    case kF => exact hF.mono (fun p hp => by simp [hp])
    case kM => exact hc1
    case kL => exact hc2
    case kd => ktr_room
    case ku => ktr_units
    intro v9 n9 h9 tk9 hp9 F9 N9
    obtain ⟨r9, vs9, k9, rfl, ⟨tl9, rfl, ho9⟩, hm9, hs9⟩ := hp9
    try dsimp only
    try k_fold)
  k_with "CompSrc!" => k_dflt (
    refine' LCg.CompSrc.ledger ?e1 ?e2 ?e3 ?e4 ?e5 ?_
    case e1 => rfl
    case e2 => k_asm
    case e3 => k_asm
    case e4 => exact hm9
    case e5 =>
      have hl9 := hs9.length
      rw [PySem.sizeLine_eq]
      have := hgs.1
      simp only [Array.length_toList] at hl9
      omega
    intro g'
    refine' rest_inv (fun i ys nw => Ext ?nw1 nw ∧ AreScans w.params nw ys (((groupsOf cps.length).take i).map fun g => ⟨g, 0, 0, hi, lo⟩)) ⟨.nil, .nil⟩ (fun i ys nw v I' oI' C' oC' D' m' h' tk' E' hi' hv hJ hC' hx' F' N' off' ne' => ?turn) (fun ys nw hJ => ?fin)
    case' turn =>
      obtain ⟨⟨tl, rfl, ht⟩, hs⟩ := hJ
      obtain ⟨a1, ws, n1, g, rfl, hma, hia, hga⟩ := hs9.at (v := v) (by simpa using hv)
      have hgl := hgs.2 g (List.mem_of_getElem? hga)
    case' fin =>
      obtain ⟨⟨tl, rfl, ht⟩, hs⟩ := hJ
    all_goals (try k_fold))
  k_steps
  · refine' hret _ _ _ _ ?post ?fr ?nw
    case nw => assumption
    case fr => assumption
    case post =>
      rename (∀ p ∈ news, _ < _) => l1
      rename LCg.Off1 _ _ => o1
      have hsz : vs9.size = (groupsOf cps.length).length := by have := hs9.length; simpa only [Array.length_toList] using this
      rw [hsz, List.take_length] at hs
      exact ⟨_, _, _, rfl, .cons (fun q hq => ne_of_off1 o1 q (by simp [hq])) (.app (off_right ht (by (repeat' first | refine sub_a ?_ ?_ | refine sub_c ?_ ?_) <;> first | exact no_mem | kn_among | (intro q hq; kn_among))) (.app (off_right ho9 (by (repeat' first | refine sub_a ?_ ?_ | refine sub_c ?_ ?_) <;> first | exact no_mem | kn_among | (intro q hq; kn_among))) (.cons (fun q hq => ne_up 2 (l1 q hq)) (.cons (fun q hq => ne_up 1 (l1 q hq)) .nil)))), .head _, hs.mono sub_cons⟩
  · obtain ⟨r10, tl10, rfl, rfl, ho10, hs10⟩ := hp9
    refine comp_end0 F9 N9 off' ho10 ?_ ?_
    · exact .inr ⟨_, sub_app _ (sub_app _ hm9), rfl, _, rfl⟩
    · refine ⟨.app (off_right ho10 (by (repeat' first | refine sub_a ?_ ?_ | refine sub_c ?_ ?_) <;> first | exact no_mem | kn_among | (intro q hq; kn_among))) (.app ht .nil), ?_⟩
      rw [take_snoc hga, List.map_append]
      refine AreScans.append (hs.mono sub_app) (.cons (hs10.mono ?_) .nil)
      intro p hp
      rcases List.mem_cons.mp hp with rfl | h
      · exact sub_app _ (sub_app _ hma)
      · exact List.mem_append.mpr (.inl h)
end Mine

namespace Mine
theorem quietC6 : True := by
  w_top off
  trivial
open PySem PySem.W PyProof.Rows PySem.Spec PySem.Calls
set_option Elab.async false
set_option maxRecDepth 100000
set_option maxHeartbeats 2000000
local macro_rules | `(tactic| k_mem) => `(tactic| first | exact List.mem_cons_self | ktr_member | with_reducible assumption | (refine List.mem_cons_of_mem _ ?_; k_mem) | (refine List.mem_append.mpr (Or.inr ?_); k_mem) | (refine List.mem_append.mpr (Or.inl ?_); k_mem))

noncomputable def upto : Nat → List Int := fun m => (List.range m).map fun (i : Nat) => (i : Int)
noncomputable def plainOut (m : Nat) (side : Int) : List Sc :=
  dcOut m 0 1 ++ acOut (upto m) 1 (min 5 (side * side - 1)) 0 2 ++ acOut (upto m) (min 5 (side * side - 1) + 1) (side * side - 1) 0 2 ++ acOut (upto m) 1 (side * side - 1) 2 1 ++ dcOut m 1 0 ++ acOut (upto m) 1 (side * side - 1) 1 0
theorem side_mul {prog : Program} {w : World} {A : Around} {E : Value → Shared → Prop} {s : Shared} {a : Int} {t u : Tok} {Q : Value → Shared → Prop} (h1 : 1 ≤ a) (h2 : a ≤ 4)
    (h : 1 ≤ a * a → a * a ≤ 16 → Q (.int (a * a) s.toks) { s with toks := s.toks + 1 }) : wpAny (model prog w) A (binaryOp .Mult (.int a t) (.int a u)) Q E s := by
  have ha : a = 1 ∨ a = 2 ∨ a = 3 ∨ a = 4 := by omega
  refine mul_int (h ?_ ?_) ?_
  · rcases ha with rfl | rfl | rfl | rfl <;> decide
  · rcases ha with rfl | rfl | rfl | rfl <;> decide
  · rcases ha with rfl | rfl | rfl | rfl <;> mul_fits
theorem upto_length (n : Nat) : (upto n).length = n := by simp [upto]
theorem list_upto {prog : Program} {w : World} {A : Around} {E : Value → Shared → Prop} {s : Shared} {h₀ : Heap} {L : Addr} {m : Str → Option Value} {news : List (Addr × Obj)} {r : Addr} {t u v : Tok} {n : Nat} {Q : Value → Shared → Prop}
    (hh : A.handled = none) (F : Fr h₀ L s.heap m) (N : News h₀ L s.heap news) (hr : IsRange s.heap r 0 (n : Int) 1 t u v) (hn : n ≤ 100)
    (hQ : ∀ D h' tk ys k, Fr h₀ L h' m → News h₀ L h' ((D, listOf ys.toArray k) :: news) → (∀ q ∈ news, D ≠ q.1) → IntsAre ys (upto n) → Q (.ref D) { s with heap := h', toks := tk }) :
    wpAny (model prog w) A (call (.type "list") [.ref r]) Q E s := by
  refine list_rangeD hh F N hr (small_one (by omega) (by omega) (by omega) (by omega)) (rangeSize_nat _ _) (by omega) fun h' tk ys F' N' _ h0 _ np ca => ?_
  obtain ⟨k, NX⟩ := made_enters np F' N' h0
  refine hQ _ h' tk ys k F' NX (fun q hq => Ne.symm (np.2 q hq)) ?_
  have e : (rangeInts 0 1 n).map (fun a => a) = upto n := by simp [rangeInts, upto]
  exact e ▸ CarriedAll.intsOf (f := fun a : Int => a) ca
theorem add_scans {bs : List (Addr × Obj)} {prog : Program} {w : World} {A : Around} {E : Value → Shared → Prop} {s : Shared} {h₀ : Heap} {L : Addr} {m : Str → Option Value} {news : List (Addr × Obj)} {P : Params} {l b : Addr} {vs ws : List Value} {k k' z z' : Nat} {σ τ : List Sc} {Q : Value → Shared → Prop}
    (F : Fr h₀ L s.heap m) (N : News h₀ L s.heap news) (hl : (l, listOf vs.toArray k) ∈ news) (hb : (b, listOf ws.toArray k') ∈ news) (ha : AreScans P news vs σ) (hb' : AreScans P news ws τ) (hz : vs.length ≤ z) (hz' : ws.length ≤ z') (hzz : z + z' ≤ 1000) (hE : Ext bs news)
    (h : ∀ D h', Fr h₀ L h' m → News h₀ L h' ((D, listOf (vs ++ ws).toArray 0) :: news) → Ext bs ((D, listOf (vs ++ ws).toArray 0) :: news) → AreScans P ((D, listOf (vs ++ ws).toArray 0) :: news) (vs ++ ws) (σ ++ τ) → (vs ++ ws).length ≤ z + z' → Q (.ref D) { s with heap := h' }) :
    wpAny (model prog w) A (binaryOp .Add (.ref l) (.ref b)) Q E s := by
  refine add_arrays F N ⟨_, N.get hl, rfl, _, rfl⟩ ⟨_, N.get hb, rfl, _, rfl⟩ (fun h' F' N' => ?_) ?_
  · exact h _ h' F' N' (.cons (fun q hq => Nat.ne_of_gt (Heap.lt_size (N q (hE.sub q hq)).1)) hE) ((ha.append hb').mono sub_cons) (by rw [List.length_append]; omega)
  · simp only [List.size_toArray]; rw [PySem.sizeLine_eq]; omega
theorem dc_len (m : Nat) (hi lo : Int) : (dcOut m hi lo).length ≤ 100 := by
  have := (groups_short m).1
  simp only [dcOut, List.length_map]; omega
theorem ac_len {m : Nat} (h : m ≤ 100) (a b c d : Int) : (acOut (upto m) a b c d).length ≤ 100 := by
  unfold acOut
  split
  · exact Nat.zero_le _
  · rw [List.length_map, upto_length]; exact h
theorem plain_step {w : World} {news : List (Addr × Obj)} {fr : Addr} {cps : List Cp} {side : Int} (hF : FrameIn w.params news fr cps side) (hc1 : 1 ≤ cps.length) (hc2 : cps.length ≤ 5) (hs1 : 1 ≤ side) (hs2 : side ≤ 4) :
    Step w 92 [.ref fr] 16 news (fun v news' => ∃ r vs k, v = .ref r ∧ Ext news news' ∧ (r, listOf vs.toArray k) ∈ news' ∧ AreScans w.params news' vs (plainOut cps.length side)) := by
  unfold Step
  k_with_none
  k_fill
  intro mean mg mb dp un gd cn cs a ccd cl outer A₀ base h₀ L m s Q E B F X N T hk hdp hun hret
  have hF0 := hF
  obtain ⟨fd, cl', k1, k2, k3, k4, k5, k6, t1, t2, t3, t4, t6, n, m', hf, hd', hcl, hcp, hsm⟩ := hF
  have hlen : (cps.map fun q => Value.ref q.c).length = cps.length := List.length_map ..
  have hcc : True → 1 ≤ cps.length ∧ cps.length ≤ 5 := fun _ => ⟨hc1, hc2⟩
  have hE9 : Ext news news := .nil
  clear hc1 hc2
  refine wpAny_call ?_
  k_dflt ktr_enter
  k_with "mul!" => k_dflt (refine side_mul hs1 hs2 ?_; intro lo9 hi9)
  k_with "tolist!" => k_dflt (
    refine' list_upto (n := cps.length) ?l1 ?l2 ?l3 ?l4 ?l5 ?_
    case l1 => rfl
    case l2 => k_asm
    case l3 => k_asm
    case l4 => assumption
    case l5 => (have hc9 := hcc trivial; omega)
    intro D9 h9 tk9 ys9 k9 F9 N9 hoD hI9
    have hE9 := Ext.cons (o := listOf ys9.toArray k9) (fun q hq => hoD q (hE9.sub q hq)) hE9
    try dsimp only)
  k_with "addl!" => k_dflt (
    refine' add_scans (P := w.params) ?a1 ?a2 ?a3 ?a4 ?a5 ?a6 ?a7 ?a8 ?a9 ?a10 ?_
    case a1 => k_asm
    case a2 => k_asm
    case a3 => k_mem
    case a4 => k_mem
    case a5 => (refine AreScans.mono ?_ (by assumption); intro p hp; k_mem)
    case a6 => (refine AreScans.mono ?_ (by assumption); intro p hp; k_mem)
    case a7 => assumption
    case a8 => assumption
    case a9 => decide
    case a10 => assumption
    intro D9 h9 F9 N9 hE9 hs9 hz9
    try dsimp only)
  k_with "len!" => k_dflt ((refine' kun_lenL (items := (cps.map fun q => Value.ref q.c).toArray) (k := cps.length) ?k1 ?k2 ?k3 ?_; (case k1 => exact News.isList (by k_asm) (by k_mem)); (case k2 => first | omega | (rw [List.size_toArray, hlen])); (case k3 => (have hc9 := hcc trivial; omega)); (try dsimp only)))
  k_with "call ref!" => k_dflt (
    refine' Step.use ?k1 ?k2 ?k3 ?k4 ?k5 ?kK (dc_step ?kF ?kM ?kL) ?kd ?ku ?_
    case k1 => k_asm
    case k2 => k_asm
    case k3 => k_asm
    case k4 => k_asm
    case k5 => k_asm
    case kK => first | exact rfl | assumption
    case kF => exact hF0.mono (fun p hp => by k_mem)
    case kM => exact (hcc trivial).1
    case kL => exact (hcc trivial).2
    case kd => ktr_room
    case ku => ktr_units
    intro v9 n9 h9 tk9 hp9 F9 N9
    obtain ⟨r9, vs9, k9, rfl, ⟨tl9, rfl, ho9⟩, hm9, hs9⟩ := hp9
    have hE9 := Ext.app (off_right ho9 (fun p hp => hE9.sub p hp)) hE9
    have hz9 : vs9.length ≤ 100 := by rw [hs9.length]; exact dc_len _ _ _
    try dsimp only
    try k_fold)
  k_with "call ref!" => k_dflt (
    refine' Step.use ?k1 ?k2 ?k3 ?k4 ?k5 ?kK (ac_step ?kM ?kI ?kL) ?kd ?ku ?_
    case k1 => k_asm
    case k2 => k_asm
    case k3 => k_asm
    case k4 => k_asm
    case k5 => k_asm
    case kK => first | exact rfl | assumption
    case kM => k_mem
    case kI => assumption
    case kL => (rw [upto_length]; have hc9 := hcc trivial; omega)
    case kd => ktr_room
    case ku => ktr_units
    intro v9 n9 h9 tk9 hp9 F9 N9
    obtain ⟨r9, vs9, k9, rfl, ⟨tl9, rfl, ho9⟩, hm9, hs9⟩ := hp9
    have hE9 := Ext.app (off_right ho9 (fun p hp => hE9.sub p hp)) hE9
    have hz9 : vs9.length ≤ 100 := by rw [hs9.length]; exact ac_len (by have hc9 := hcc trivial; omega) _ _ _ _
    try dsimp only
    try k_fold)
  k_steps
  refine' hret _ _ _ _ ?post ?fr ?nw
  case nw => assumption
  case fr => assumption
  case post =>
    refine ⟨_, _, _, rfl, ?_, .head _, ?_⟩
    · exact hE9
    · have e : min 5 (side * side - 1) = if side * side - 1 < 5 then side * side - 1 else 5 := by split <;> omega
      unfold plainOut
      rw [e]
      exact hs9
end Mine

namespace Mine
theorem quietC7 : True := by
  w_top off
  trivial
open PySem PySem.W PyProof.Rows PySem.Spec PySem.Calls
set_option Elab.async false
set_option maxRecDepth 100000
set_option maxHeartbeats 4000000
theorem seed_ok (x : Int) : 0 ≤ Int.fmod x 65123 + 151 ∧ Int.fmod x 65123 + 151 < 70000 := by
  rw [Int.fmod_eq_emod_of_nonneg _ (by decide)]
  have h1 := Int.emod_nonneg x (show (65123 : Int) ≠ 0 by decide)
  have h2 := Int.emod_lt_of_pos x (show (0 : Int) < 65123 by decide)
  omega
theorem relay_step {w : World} {mean : ExcName → Option Value} {mg mb : Str → Option Value} {dp un : Nat} {gd : Option (List Code)} {cn : Str} {cs : Scope} {a : Addr} {ccd : Value} {cl : List (Str × Addr)} {outer : List Env} {A₀ : Around} {base h₀ : Heap} {L : Addr} {m : Str → Option Value}
    {s : Shared} {Q E : Value → Shared → Prop} {news : List (Addr × Obj)} {sl : Addr} {vs : List Value} {ns : List Int}
    (B : Below A₀ base outer h₀) (F : Fr h₀ L s.heap m) (X : (hd.heap_39 w.params).In h₀) (N : News h₀ L s.heap news) (T : Top hd.view_39 (looseW hd.view_39 []) mean mg mb h₀) (hk : cs.kind = .function)
    (hIs : base.IsList sl vs.toArray) (hI : IntsAre vs ns) (hLy : (PyData.list (ns.map PyData.int)).layable0 = true) (hle : ¬ (63 : Int) < (ns.length : Int)) (hdp : dp + 2 < recursionLimit) (hun : un + 16 < cLine)
    (hret : ∀ D r0 r1 t0 t1 n h' tk', (∀ q ∈ news, q.1 < D) → 0 ≤ r1 → r1 < 70000 → Fr h₀ L h' m → News h₀ L h' ((D, listOf #[.int r0 t0, .int r1 t1] n) :: news) → Q (.ref D) { s with heap := h', toks := tk' }) :
    wpAny (model PySem.Challenge.rw_xm0819_01.row.prog w) (ktrTop dp un gd cn cs L a ccd cl outer) (call (.ref 193) [.ref sl]) Q E s := by
  k_with_none
  revert X; k_fill; intro X
  refine wpAny_call ?_
  k_dflt cell_enter
  k_steps
  all_goals
    refine' hret _ _ _ _ _ _ _ _ ?o ?a ?b ?fr ?nw
    case nw => assumption
    case fr => assumption
    case o => assumption
    case a => exact (seed_ok _).1
    case b => exact (seed_ok _).2
end Mine

namespace Mine
theorem quietC8 : True := by
  w_top off
  trivial
open PySem PySem.W PyProof.Rows PySem.Spec PySem.Calls
set_option Elab.async false
set_option maxRecDepth 100000
set_option maxHeartbeats 2000000
theorem comp_step {w : World} {news : List (Addr × Obj)} {k a b : Int} {t1 t2 t3 t4 : Tok} :
    Step w 116 [.int k t1, .int a t2, .int b t3, .int 0 t4] 3 news (fun v news' => ∃ (q : Cp) (tl : List (Addr × Obj)), v = .ref q.c ∧ q.a = a ∧ q.b = b ∧ news' = tl ++ news ∧ TbOff tl news ∧ CompIn w.params tl q) := by
  unfold Step
  k_with_none
  k_fill
  intro mean mg mb dp un gd cn cs a9 ccd cl outer A₀ base h₀ L m s Q E B F X N T hk hdp hun hret
  refine' call_cls ?k1 ?k2 ?k3 ?k4 ?k5 ?k6 ?_
  case k1 => k_asm
  case k2 => k_asm
  case k3 => k_asm
  case k4 => k_is
  case k5 => k_is
  case k6 => k_is
  intro x' d' h' F' N' l1 l2
  (try k_lt l1); (try k_lt2 l2); (try k_sweep)
  k_dflt ktr_enter
  k_steps
  refine' hret _ _ _ _ ?post ?fr ?nw
  case nw => assumption
  case fr => assumption
  case post =>
    exact ⟨⟨x', d', a, b⟩, [_, _], rfl, rfl, rfl, rfl, off_cons (fun q hq => Nat.ne_of_gt (Nat.lt_trans (l1 q hq) l2)) (off_cons (fun q hq => Nat.ne_of_gt (l1 q hq)) off_nil), ⟨_, _, _, _, _, _, _, _, _, _, .head _, .tail _ (.head _)⟩⟩
theorem frame_step {w : World} {news : List (Addr × Obj)} {lc : Addr} {side : Int} {t0 t1 t2 t3 t4 : Tok} :
    Step w 182 [.str (Str.ofString "progressive") t0, .int 8 t1, .int 9 t2, .int 9 t3, .ref lc, .int side t4] 3 news (fun v news' => ∃ (fr fd : Addr) (tl : List (Addr × Obj)) (k1 k2 k3 k4 k5 k6 t1 t2 t3 t4 t6 : Tok) (n : Nat), v = .ref fr ∧ news' = tl ++ news ∧ TbOff tl news ∧
      (fr, instObj 182 fd) ∈ tl ∧ (fd, dictOf [ent w.params (Str.ofString "kind") k1 (.str (Str.ofString "progressive") t1), ent w.params (Str.ofString "precision") k2 (.int 8 t2), ent w.params (Str.ofString "height") k3 (.int 9 t3), ent w.params (Str.ofString "width") k4 (.int 9 t4),
      ent w.params (Str.ofString "components") k5 (.ref lc), ent w.params (Str.ofString "n") k6 (.int side t6)] n) ∈ tl) := by
  unfold Step
  k_with_none
  k_fill
  intro mean mg mb dp un gd cn cs a9 ccd cl outer A₀ base h₀ L m s Q E B F X N T hk hdp hun hret
  refine' call_cls ?k1 ?k2 ?k3 ?k4 ?k5 ?k6 ?_
  case k1 => k_asm
  case k2 => k_asm
  case k3 => k_asm
  case k4 => k_is
  case k5 => k_is
  case k6 => k_is
  intro x' d' h' F' N' l1 l2
  (try k_lt l1); (try k_lt2 l2); (try k_sweep)
  k_dflt ktr_enter
  k_steps
  refine' hret _ _ _ _ ?post ?fr ?nw
  case nw => assumption
  case fr => assumption
  case post =>
    exact ⟨x', d', [_, _], _, _, _, _, _, _, _, _, _, _, _, _, rfl, rfl, off_cons (fun q hq => Nat.ne_of_gt (Nat.lt_trans (l1 q hq) l2)) (off_cons (fun q hq => Nat.ne_of_gt (l1 q hq)) off_nil), .head _, .tail _ (.head _)⟩
end Mine

namespace Mine
theorem quietD1 : True := by
  w_top off
  trivial
open PySem PySem.W PyProof.Rows PySem.Spec PySem.Calls
set_option Elab.async false
set_option maxRecDepth 100000
set_option maxHeartbeats 2000000
noncomputable def lastDef : List Stmt → Scope × List Stmt
  | [] => ({ kind := .function, names := [], isGenerator := false, isCoroutine := false, more := [] }, [])
  | [.FunctionDef _ _ b _ _ _ sc _ _ _] => (sc, b)
  | _ :: r => lastDef r
noncomputable def lawScopeS : { s : Scope // s = (lastDef PySem.Challenge.pw_xm0819_01.main.body).1 } := ⟨_, by conv => { rhs; whnf }⟩
noncomputable def lawBodyS : { b : List Stmt // b = (lastDef PySem.Challenge.pw_xm0819_01.main.body).2 } := ⟨_, by conv => { rhs; whnf }⟩
noncomputable abbrev lawScope : Scope := lawScopeS.1
noncomputable abbrev lawBody : List Stmt := lawBodyS.1
noncomputable def forBody : Stmt → List Stmt
  | .For _ _ b _ _ => b
  | _ => []
noncomputable def ifBody : Stmt → List Stmt
  | .If _ b _ _ => b
  | _ => []
noncomputable def nth (l : List Stmt) (n : Nat) : Stmt := l.getD n (.Pass ⟨0, 0, 0, 0⟩)
noncomputable def scanBodyS : { b : List Stmt // b = forBody (nth lawBodyS.1 5) } := ⟨_, by conv => { rhs; whnf }⟩
noncomputable abbrev scanBody : List Stmt := scanBodyS.1
noncomputable def placeBodyS : { b : List Stmt // b = forBody (nth scanBodyS.1 3) } := ⟨_, by conv => { rhs; whnf }⟩
noncomputable abbrev placeBody : List Stmt := placeBodyS.1
noncomputable def atBodyS : { b : List Stmt // b = forBody (nth placeBodyS.1 0) } := ⟨_, by conv => { rhs; whnf }⟩
noncomputable abbrev atBody : List Stmt := atBodyS.1
noncomputable def duePlaceBodyS : { b : List Stmt // b = forBody (nth lawBodyS.1 7) } := ⟨_, by conv => { rhs; whnf }⟩
noncomputable abbrev duePlaceBody : List Stmt := duePlaceBodyS.1
noncomputable def dueAtBodyS : { b : List Stmt // b = forBody (nth duePlaceBodyS.1 0) } := ⟨_, by conv => { rhs; whnf }⟩
noncomputable abbrev dueAtBody : List Stmt := dueAtBodyS.1
noncomputable def thinBodyS : { b : List Stmt // b = ifBody (nth lawBodyS.1 10) } := ⟨_, by conv => { rhs; whnf }⟩
noncomputable abbrev thinBody : List Stmt := thinBodyS.1
noncomputable abbrev rowP : Program := PySem.Challenge.rw_xm0819_01.row.prog
noncomputable abbrev lawEnv (L fa : Addr) (c : Value) : Env := envOfC (Str.ofString "law") lawScope L fa c
noncomputable abbrev lawA (L fa : Addr) (c : Value) : Around := callerA.deeper (lawEnv L fa c)
end Mine

namespace Mine
theorem quietD2 : True := by
  w_top off
  trivial
open PySem PySem.W PyProof.Rows PySem.Spec PySem.Calls
set_option Elab.async false
set_option maxRecDepth 100000
set_option maxHeartbeats 2000000
/-- the law's statements from the k-th on end well -/
structure RunsAt (w : World) (L fa : Addr) (c : Value) (k : Nat) (Q : Flow → Shared → Prop) (s : Shared) : Prop where
  run : wpAny (model rowP w) (lawA L fa c) (execs (lawBody.drop k) (lawEnv L fa c)) Q (fun _ _ => False) s
theorem RunsAt.use {w : World} {L fa : Addr} {c : Value} {k : Nat} {Q : Flow → Shared → Prop} {s : Shared} {b : List Stmt} (hb : lawBody.drop k = b) (h : RunsAt w L fa c k Q s) : wpAny (model rowP w) (lawA L fa c) (execs b (lawEnv L fa c)) Q (fun _ _ => False) s := hb ▸ h.run
noncomputable abbrev tup2 (p q : Int) (t u : Tok) : Obj := { cls := .type "tuple", data := .seq #[.int p t, .int q u] }
noncomputable def ArePairs (news : List (Addr × Obj)) (vs : List Value) (qs : List (Int × Int)) : Prop := Paired (fun v q => ∃ a t u, v = .ref a ∧ (a, tup2 q.1 q.2 t u) ∈ news) vs qs
theorem ArePairs.nil {news : List (Addr × Obj)} : ArePairs news [] [] := Paired.nil
theorem ArePairs.cons {news : List (Addr × Obj)} {a : Addr} {p q : Int} {t u : Tok} {vs : List Value} {qs : List (Int × Int)} (h : (a, tup2 p q t u) ∈ news) (r : ArePairs news vs qs) : ArePairs news (.ref a :: vs) ((p, q) :: qs) := Paired.cons ⟨a, t, u, rfl, h⟩ r
theorem ArePairs.mono {news news' : List (Addr × Obj)} (hs : ∀ p ∈ news, p ∈ news') {vs : List Value} {qs : List (Int × Int)} (h : ArePairs news vs qs) : ArePairs news' vs qs :=
  Paired.mono (fun _ _ ⟨a, t, u, e, h⟩ => ⟨a, t, u, e, hs _ h⟩) h
theorem ArePairs.append {news : List (Addr × Obj)} {vs vs' : List Value} {qs qs' : List (Int × Int)} (h : ArePairs news vs qs) (h' : ArePairs news vs' qs') : ArePairs news (vs ++ vs') (qs ++ qs') := pr_append h h'
theorem ArePairs.length {news : List (Addr × Obj)} {vs : List Value} {qs : List (Int × Int)} (h : ArePairs news vs qs) : vs.length = qs.length := Paired.length h
theorem ArePairs.at {news : List (Addr × Obj)} {vs : List Value} {qs : List (Int × Int)} (h : ArePairs news vs qs) {i : Nat} (hi : i < qs.length) : ∃ a p q t u, vs[i]? = some (.ref a) ∧ (a, tup2 p q t u) ∈ news ∧ qs[i]? = some (p, q) := by
  have hv := List.getElem?_eq_getElem (show i < vs.length from h.length ▸ hi)
  obtain ⟨⟨p, q⟩, ⟨a, t, u, e, hm⟩, hq⟩ := pr_at h hv
  exact ⟨a, p, q, t, u, e ▸ hv, hm, hq⟩

/-! ### the table that the law fills: keys are pairs, values lists of pairs -/
noncomputable abbrev Tab := List ((Int × Int) × List (Int × Int))
noncomputable def getT (k : Int × Int) : Tab → Option (List (Int × Int))
  | [] => none
  | e :: r => if e.1 = k then some e.2 else getT k r
noncomputable def putT (k : Int × Int) (ps : List (Int × Int)) (D : Tab) : Tab :=
  if (getT k D).isSome then D.map (fun e => if e.1 = k then (e.1, ps) else e) else D ++ [(k, ps)]
noncomputable def ValIn (news : List (Addr × Obj)) (v : Value) (ps : List (Int × Int)) : Prop := ∃ a vs n, v = .ref a ∧ (a, listOf vs.toArray n) ∈ news ∧ ArePairs news vs ps
theorem ValIn.mono {news news' : List (Addr × Obj)} (hs : ∀ p ∈ news, p ∈ news') {v : Value} {ps : List (Int × Int)} (h : ValIn news v ps) : ValIn news' v ps := by
  obtain ⟨a, vs, n, rfl, hm, hp⟩ := h
  exact ⟨a, vs, n, rfl, hs _ hm, hp.mono hs⟩
noncomputable def Rows (news : List (Addr × Obj)) (xs : List (List Int × Addr × Value)) (D : Tab) : Prop := Paired (fun x e => x.1 = [e.1.1, e.1.2] ∧ (∃ t u, (x.2.1, tup2 e.1.1 e.1.2 t u) ∈ news) ∧ ValIn news x.2.2 e.2) xs D
theorem Rows.nil {news : List (Addr × Obj)} : Rows news [] [] := Paired.nil
theorem Rows.cons {news : List (Addr × Obj)} {a : Addr} {p q : Int} {t u : Tok} {v : Value} {ps : List (Int × Int)} {xs : List (List Int × Addr × Value)} {D : Tab} (h : (a, tup2 p q t u) ∈ news) (i : ValIn news v ps) (r : Rows news xs D) : Rows news (([p, q], a, v) :: xs) (((p, q), ps) :: D) :=
  Paired.cons ⟨rfl, ⟨t, u, h⟩, i⟩ r
theorem Rows.mono {news news' : List (Addr × Obj)} (hs : ∀ p ∈ news, p ∈ news') {xs : List (List Int × Addr × Value)} {D : Tab} (h : Rows news xs D) : Rows news' xs D :=
  Paired.mono (fun _ _ h => ⟨h.1, h.2.1.elim fun t h => h.elim fun u h => ⟨t, u, hs _ h⟩, h.2.2.mono hs⟩) h
theorem Rows.length {news : List (Addr × Obj)} {xs : List (List Int × Addr × Value)} {D : Tab} (h : Rows news xs D) : xs.length = D.length := Paired.length h
theorem Rows.append {news : List (Addr × Obj)} {xs xs' : List (List Int × Addr × Value)} {D D' : Tab} (h : Rows news xs D) (h' : Rows news xs' D') : Rows news (xs ++ xs') (D ++ D') := pr_append h h'
theorem key_eq {p q a b : Int} : ([p, q] = [a, b]) ↔ ((p, q) = (a, b)) := by simp
theorem Rows.get {news : List (Addr × Obj)} {a b : Int} {xs : List (List Int × Addr × Value)} {D : Tab} (R : Rows news xs D) :
    (getT (a, b) D = none ∧ atKey xs [a, b] = none) ∨ ∃ ps x v, getT (a, b) D = some ps ∧ atKey xs [a, b] = some (x, v) ∧ ValIn news v ps := by
  induction R with
  | nil => exact .inl ⟨rfl, rfl⟩
  | @cons x e xs D h t ih =>
    rw [getT, atKey, List.find?_cons]
    by_cases hk : e.1 = (a, b)
    · rw [decide_eq_true (h.1.trans (key_eq.mpr hk)), if_pos hk]
      exact .inr ⟨_, _, _, rfl, rfl, h.2.2⟩
    · rw [decide_eq_false (fun k => hk (key_eq.mp (h.1.symm.trans k))), if_neg hk]
      exact ih
theorem Rows.map {news : List (Addr × Obj)} {a b : Int} {v : Value} {ps : List (Int × Int)} (hv : ValIn news v ps) {xs : List (List Int × Addr × Value)} {D : Tab} (R : Rows news xs D) :
    Rows news (xs.map (putAt [a, b] v)) (D.map (fun e => if e.1 = (a, b) then (e.1, ps) else e)) := by
  induction R with
  | nil => exact .nil
  | @cons x e xs D h t ih =>
    refine Paired.cons ?_ ih
    unfold putAt
    dsimp only
    by_cases hk : e.1 = (a, b)
    · rw [if_pos (h.1.trans (key_eq.mpr hk)), if_pos hk]
      exact ⟨h.1, h.2.1, hv⟩
    · rw [if_neg (fun k => hk (key_eq.mp (h.1.symm.trans k))), if_neg hk]
      exact h
theorem Rows.put {news : List (Addr × Obj)} {a b : Int} {x : Addr} {t u : Tok} {v : Value} {ps : List (Int × Int)} (hv : ValIn news v ps) (hx : (x, tup2 a b t u) ∈ news) {xs : List (List Int × Addr × Value)} {D : Tab} (R : Rows news xs D) :
    Rows news (storedH xs [a, b] x v) (putT (a, b) ps D) := by
  rcases R.get (a := a) (b := b) with ⟨h1, h2⟩ | ⟨ps', x', v', h1, h2, h3⟩
  · rw [storedH, h2, putT, h1]
    exact R.append (.cons hx hv .nil)
  · rw [storedH, h2, putT, h1]
    exact R.map hv
section
variable {prog : Program} {w : World}
theorem tup2_key {h : Heap} {t : Addr} {p q : Int} {x y : Tok} (ho : h.get? t = some (tup2 p q x y)) : IsTupleKey (intKind prog w) h [p, q] t :=
  ⟨_, _, _, ho, rfl, rfl, .cons (by simp [intKind, Value.isInt]) (.cons (by simp [intKind, Value.isInt]) .nil)⟩
theorem Rows.is {news : List (Addr × Obj)} {h₀ h : Heap} {L : Addr} (N : News h₀ L h news) {xs : List (List Int × Addr × Value)} {D : Tab} (R : Rows news xs D) : ∀ x ∈ xs, (tupleKind (intKind prog w)).is h x.1 x.2.1 := by
  induction R with
  | nil => exact no_mem
  | cons k t ih =>
    refine List.forall_mem_cons.mpr ⟨?_, ih⟩
    obtain ⟨t, u, hm⟩ := k.2.1
    rw [k.1]
    exact tup2_key (N.get hm)
noncomputable def TabO (prog : Program) (w : World) (tl : List (Addr × Obj)) (o : Obj) (D : Tab) : Prop :=
  ∃ es ep xs, o.ExactDict ∧ o.data = .dict es ep ∧ es.toList = xs.map (entryOfKey (tupleKind (intKind prog w))) ∧ (xs.map (·.1)).Nodup ∧ Rows tl xs D
theorem TabO.mono {tl tl' : List (Addr × Obj)} {o : Obj} {D : Tab} (T : TabO prog w tl o D) (hs : ∀ p ∈ tl, p ∈ tl') : TabO prog w tl' o D := by
  obtain ⟨es, ep, xs, h1, h2, h3, h4, h5⟩ := T
  exact ⟨es, ep, xs, h1, h2, h3, h4, h5.mono hs⟩
theorem TabO.empty {K : Type} [DecidableEq K] {knd : KeyKind prog w K} {tl : List (Addr × Obj)} {o : Obj} (hd : o.IsDictOf knd []) : TabO prog w tl o [] := by
  obtain ⟨es, ep, hc, hdat, _, hp, _⟩ := hd
  have he : es.toList = [] := List.length_eq_zero_iff.mp hp.length
  exact ⟨es, ep, [], hc, hdat, he, List.nodup_nil, .nil⟩
theorem TabO.dict {tl all : List (Addr × Obj)} {o : Obj} {D : Tab} {h₀ h : Heap} {L d : Addr} (T : TabO prog w tl o D) (N : News h₀ L h all) (hd : (d, o) ∈ all) (hs : ∀ p ∈ tl, p ∈ all) :
    ∃ xs, h.DictOfH (tupleKind (intKind prog w)) d xs ∧ Rows tl xs D := by
  obtain ⟨es, ep, xs, h1, h2, h3, h4, h5⟩ := T
  exact ⟨xs, ⟨o, es, ep, N.get hd, h1, h2, h3, h5.is (reorder N hs), h4⟩, h5⟩
variable {A : Around} {E : Value → Shared → Prop} {s : Shared} {h₀ : Heap} {L d t : Addr} {m : Str → Option Value}
theorem get_tab {tl all : List (Addr × Obj)} {o : Obj} {D : Tab} {p q : Int} {x y : Tok} {b : Addr} {k : Nat} {Q : Value → Shared → Prop} (N : News h₀ L s.heap all) (hs : ∀ p ∈ tl, p ∈ all) (hd : (d, o) ∈ all) (lo : (d == sysModules) = false)
    (T : TabO prog w tl o D) (hk : (t, tup2 p q x y) ∈ all) (hu : A.units + 1 < cLine) (hv : (b, listOf #[] k) ∈ all) (h : ∀ a vs n, (a, listOf vs.toArray n) ∈ all → ArePairs tl vs ((getT (p, q) D).getD []) → Q (.ref a) { s with toks := s.toks + 3 }) :
    wpAny (model prog w) A (call (.builtin "dict.get") [.ref d, .ref t, .ref b]) Q E s := by
  obtain ⟨xs, hD, R⟩ := T.dict N hd hs
  refine call_meetsIn PySem.F.slot_dict_get hD.typeIs PySem.F.entry_dict_get (PySem.F.args_dict_get_3 _ _ _) (meetsH_dict_get_default (tupleKind (intKind prog w)) d t lo (.ref b)) ⟨tupleKind_room_in1 hu, [p, q], xs, tup2_key (N.get hk), hD, ?_⟩
  rcases R.get (a := p) (b := q) with ⟨h1, h2⟩ | ⟨ps', x', v', h1, h2, h3⟩
  · rw [h2]; rw [h1] at h; exact h b [] k hv .nil
  · obtain ⟨a, vs, n, rfl, hm, hp⟩ := h3
    rw [h2]; rw [h1] at h; exact h a vs n (hs _ hm) hp
theorem getm_tab {tl all : List (Addr × Obj)} {o : Obj} {D : Tab} {pl : Sem Bool} {Q : Value × List Value → Shared → Prop} (N : News h₀ L s.heap all) (hs : ∀ p ∈ tl, p ∈ all) (hd : (d, o) ∈ all)
    (T : TabO prog w tl o D) (h : Q (.builtin "dict.get", [.ref d]) s) : wpAny (model prog w) A (getMethod (.ref d) "get" pl) Q E s := by
  obtain ⟨xs, hD, _⟩ := T.dict N hd hs
  exact getMethod_builtin hD.typeIs PySem.F.plainAttrs_dict PySem.F.slot_dict_get PySem.F.type_dict_get (PyProof.Rows.dictOfH_noDict hD) h
theorem sub_mid {l ex tl : List (Addr × Obj)} : ∀ p ∈ l ++ tl, p ∈ l ++ (ex ++ tl) := fun p hp => by
  rcases List.mem_append.mp hp with h | h
  · exact List.mem_append.mpr (.inl h)
  · exact List.mem_append.mpr (.inr (List.mem_append.mpr (.inr h)))
theorem front6 {h : Heap} {x1 x2 x3 x4 x5 x6 y : Addr × Obj} {tl : List (Addr × Obj)} (N : News h₀ L h (x1 :: x2 :: x3 :: x4 :: x5 :: x6 :: y :: tl)) : News h₀ L h (y :: ([x1, x2, x3, x4, x5, x6] ++ tl)) :=
  reorder N (by (repeat' first | refine sub_a ?_ ?_ | refine sub_c ?_ ?_) <;> first | exact no_mem | kn_among | (intro q hq; kn_among))
theorem off_lt {a : Addr} {o : Obj} {t l : List (Addr × Obj)} (h : AllLt a l) (k : TbOff t l) : TbOff ((a, o) :: t) l := off_cons (ne_of_allLt h) k
theorem off_lt' {x : Addr × Obj} {t l : List (Addr × Obj)} (h : AllLt x.1 l) (k : TbOff t l) : TbOff (x :: t) l := off_cons (ne_of_allLt h) k
theorem off6 {h : Heap} {x1 x2 x3 x4 x5 x6 y : Addr × Obj} {tl : List (Addr × Obj)} (_ : News h₀ L h (x1 :: x2 :: x3 :: x4 :: x5 :: x6 :: y :: tl)) (h1 : AllLt x1.1 (y :: tl)) (h2 : AllLt x2.1 (y :: tl)) (h3 : AllLt x3.1 (y :: tl)) (h4 : AllLt x4.1 (y :: tl)) (h5 : AllLt x5.1 (y :: tl)) (h6 : AllLt x6.1 (y :: tl)) :
    TbOff [x1, x2, x3, x4, x5, x6] (y :: tl) := off_lt' h1 (off_lt' h2 (off_lt' h3 (off_lt' h4 (off_lt' h5 (off_lt' h6 off_nil)))))
theorem off_head {d : Addr} {o : Obj} {t tl : List (Addr × Obj)} (h : TbOff t ((d, o) :: tl)) (k : ∀ p ∈ tl, p.1 ≠ d) : ∀ p ∈ t ++ tl, p.1 ≠ d := fun p hp => by
  rcases List.mem_append.mp hp with hp | hp
  · exact h p hp _ (.head _)
  · exact k p hp
theorem set_tab {tl all : List (Addr × Obj)} {o : Obj} {D : Tab} {p q : Int} {x y : Tok} {v : Value} {ps : List (Int × Int)} {Q : Unit → Shared → Prop} (F : Fr h₀ L s.heap m) (N : News h₀ L s.heap ((d, o) :: all)) (hoff : ∀ p ∈ all, p.1 ≠ d)
    (hs : ∀ p ∈ tl, p ∈ all) (T : TabO prog w tl o D) (hk : (t, tup2 p q x y) ∈ tl) (hu : A.units + 1 < cLine) (hv : ValIn tl v ps) (hlen : D.length ≤ 100000)
    (h : ∀ h' o', Fr h₀ L h' m → News h₀ L h' ((d, o') :: all) → TabO prog w tl o' (putT (p, q) ps D) → Q () { s with heap := h', toks := s.toks + 3 }) :
    wpAny (model prog w) A (setItem (.ref d) (.ref t) v) Q E s := by
  obtain ⟨xs, hD, R⟩ := T.dict N (.head _) (fun p hp => .tail _ (hs p hp))
  have hxs : xs.length ≤ sizeLine := by rw [R.length, PySem.sizeLine_eq]; omega
  have hz := N (d, o) (.head _)
  refine wpAny_setItem_heap (hsz := hxs) (knd := tupleKind (intKind prog w)) (tupleKind_room_in1 hu) (tup2_key (N.get (.tail _ (hs _ hk)))) hD fun h' hm' hs' => ?_
  obtain ⟨o', es', ep', ho', hc', hd', he', _, hn'⟩ := hm'
  refine h h' o' (F.change hs' hz.2.1 hz.2.2) (fun b hb => ?_) ⟨es', ep', _, hc', hd', he', hn', R.put hv hk⟩
  rcases List.mem_cons.mp hb with rfl | hb
  · exact ⟨ho', hz.2⟩
  · have z := N b (.tail _ hb)
    exact ⟨hs'.extBut _ _ (hoff b hb) z.1, z.2⟩
theorem add_lists {news : List (Addr × Obj)} {Q : Value → Shared → Prop} {a b : Addr} {vs ws : List Value} {n k : Nat} (F : Fr h₀ L s.heap m) (N : News h₀ L s.heap news) (hm : (a, listOf vs.toArray n) ∈ news) (hm' : (b, listOf ws.toArray k) ∈ news) (hl : vs.length + ws.length ≤ 100000)
    (h : ∀ D h', Fr h₀ L h' m → News h₀ L h' ((D, listOf (vs ++ ws).toArray 0) :: news) → (∀ q ∈ news, q.1 < D) → Q (.ref D) { s with heap := h' }) :
    wpAny (model prog w) A (binaryOp .Add (.ref a) (.ref b)) Q E s := by
  refine add_arrays F N ⟨_, N.get hm, rfl, _, rfl⟩ ⟨_, N.get hm', rfl, _, rfl⟩ (fun h' F' N' => ?_) ?_
  · exact h _ h' F' N' (fun q hq => Heap.lt_size (N q hq).1)
  · simp only [List.size_toArray]; rw [PySem.sizeLine_eq]; omega
end
noncomputable def SmallT (n : Nat) (D : Tab) : Prop := D.length ≤ n ∧ ∀ e ∈ D, e.2.length ≤ n
theorem SmallT.mono {n k : Nat} {D : Tab} (h : SmallT n D) (hk : n ≤ k) : SmallT k D := ⟨Nat.le_trans h.1 hk, fun e he => Nat.le_trans (h.2 e he) hk⟩
theorem SmallT.get {n : Nat} {k : Int × Int} : ∀ {D : Tab}, SmallT n D → ((getT k D).getD []).length ≤ n
  | [], _ => Nat.zero_le _
  | e :: r, h => by
    unfold getT
    split
    · exact h.2 e (.head _)
    · exact SmallT.get (D := r) ⟨Nat.le_trans (Nat.le_succ _) h.1, fun x hx => h.2 x (.tail _ hx)⟩
theorem SmallT.put {n : Nat} {k : Int × Int} {ps : List (Int × Int)} {D : Tab} (h : SmallT n D) (hp : ps.length ≤ n + 1) : SmallT (n + 1) (putT k ps D) := by
  unfold putT
  split
  · refine ⟨by rw [List.length_map]; exact Nat.le_succ_of_le h.1, fun e he => ?_⟩
    obtain ⟨x, hx, rfl⟩ := List.mem_map.mp he
    split
    · exact hp
    · exact Nat.le_succ_of_le (h.2 x hx)
  · refine ⟨by rw [List.length_append]; exact Nat.succ_le_succ h.1, fun e he => ?_⟩
    rcases List.mem_append.mp he with he | he
    · exact Nat.le_succ_of_le (h.2 e he)
    · rw [List.mem_singleton.mp he]; exact hp
noncomputable def tell (hl : Int × Int) (D : Tab) (k : Int × Int) : Tab := putT k ((getT k D).getD [] ++ [hl]) D
theorem fr_kst {h₀ h : Heap} {L : Addr} {m : Str → Option Value} (ps : List (Str × Value)) (F : Fr h₀ L h m) (hk : ∀ p ∈ ps, m p.1 = some p.2) : Fr h₀ L h (kstB m ps) := by
  have e : kstB m ps = m := funext fun z => kstB_eq hk fun _ => rfl
  rw [e]; exact F
theorem kst_fr {h₀ h : Heap} {L : Addr} {m : Str → Option Value} (ps : List (Str × Value)) (F : Fr h₀ L h (kstB m ps)) (hk : ∀ p ∈ ps, m p.1 = some p.2) : Fr h₀ L h m := by
  have e : kstB m ps = m := funext fun z => kstB_eq hk fun _ => rfl
  rw [e] at F; exact F
noncomputable def ats (st en : Int) : List Int := (List.range (en + 1 - st).toNat).map fun (i : Nat) => st + (i : Int)
theorem ats17 {st en : Int} (h : en ≤ 16) (h0 : 0 ≤ st) : (ats st en).length ≤ 17 := by simp only [ats, List.length_map, List.length_range]; omega
theorem ats_length (st en : Int) : (ats st en).length = (en + 1 - st).toNat := by simp [ats]
theorem ats_get {st en : Int} {i : Nat} (h : i < (en + 1 - st).toNat) : (ats st en)[i]? = some (st + (i : Int)) := by simp [ats, h]
theorem SmallT.tell {n : Nat} {hl k : Int × Int} {D : Tab} (h : SmallT n D) : SmallT (n + 1) (tell hl D k) :=
  h.put (by rw [List.length_append]; exact Nat.succ_le_succ h.get)
noncomputable def tellRow (hl : Int × Int) (p : Int) (D : Tab) (l : List Int) : Tab := l.foldl (fun D a => tell hl D (p, a)) D
theorem SmallT.row {hl : Int × Int} {p : Int} : ∀ (l : List Int) {n : Nat} {D : Tab}, SmallT n D → SmallT (n + l.length) (tellRow hl p D l)
  | [], _, _, h => h
  | x :: r, n, _, h => by
    have := SmallT.row (hl := hl) (p := p) r (h.tell (hl := hl) (k := (p, x)))
    rw [List.length_cons, show n + (r.length + 1) = n + 1 + r.length by omega]
    exact this
theorem tellRow_snoc {hl : Int × Int} {p : Int} {D : Tab} {l : List Int} {a : Int} : tellRow hl p D (l ++ [a]) = tell hl (tellRow hl p D l) (p, a) := by simp [tellRow]
noncomputable def tellScan (hl : Int × Int) (l : List Int) (D : Tab) (ps : List Int) : Tab := ps.foldl (fun D p => tellRow hl p D l) D
theorem tellScan_snoc {hl : Int × Int} {l : List Int} {D : Tab} {ps : List Int} {p : Int} : tellScan hl l D (ps ++ [p]) = tellRow hl p (tellScan hl l D ps) l := by simp [tellScan]
theorem SmallT.scan {hl : Int × Int} {l : List Int} (hl17 : l.length ≤ 17) : ∀ (ps : List Int) {n : Nat} {D : Tab}, SmallT n D → SmallT (n + ps.length * 17) (tellScan hl l D ps)
  | [], _, _, h => h
  | x :: r, n, _, h => by
    have := SmallT.scan hl17 (hl := hl) r ((h.row (hl := hl) (p := x) l).mono (Nat.add_le_add_left hl17 n))
    rw [List.length_cons, show n + (r.length + 1) * 17 = n + 17 + r.length * 17 by omega]
    exact this
noncomputable abbrev tup4 (b : Bool) (p q r : Int) (t u v : Tok) : Obj := { cls := .type "tuple", data := .seq #[.bool b, .int p t, .int q u, .int r v] }
noncomputable def ArePass (news : List (Addr × Obj)) (vs : List Value) (qs : List (Bool × Int × Int × Int)) : Prop := Paired (fun v q => ∃ a t u z, v = .ref a ∧ (a, tup4 q.1 q.2.1 q.2.2.1 q.2.2.2 t u z) ∈ news) vs qs
theorem ArePass.nil {news : List (Addr × Obj)} : ArePass news [] [] := Paired.nil
theorem ArePass.cons {news : List (Addr × Obj)} {a : Addr} {b : Bool} {p q r : Int} {t u v : Tok} {vs : List Value} {qs : List (Bool × Int × Int × Int)} (h : (a, tup4 b p q r t u v) ∈ news) (i : ArePass news vs qs) : ArePass news (.ref a :: vs) ((b, p, q, r) :: qs) := Paired.cons ⟨a, t, u, v, rfl, h⟩ i
theorem ArePass.mono {news news' : List (Addr × Obj)} (hs : ∀ p ∈ news, p ∈ news') {vs : List Value} {qs : List (Bool × Int × Int × Int)} (h : ArePass news vs qs) : ArePass news' vs qs :=
  Paired.mono (fun _ _ ⟨a, t, u, z, e, h⟩ => ⟨a, t, u, z, e, hs _ h⟩) h
theorem ArePass.append {news : List (Addr × Obj)} {vs vs' : List Value} {qs qs' : List (Bool × Int × Int × Int)} (h : ArePass news vs qs) (h' : ArePass news vs' qs') : ArePass news (vs ++ vs') (qs ++ qs') := pr_append h h'
theorem ArePass.length {news : List (Addr × Obj)} {vs : List Value} {qs : List (Bool × Int × Int × Int)} (h : ArePass news vs qs) : vs.length = qs.length := Paired.length h
theorem app_list {prog : Program} {w : World} {A : Around} {E : Value → Shared → Prop} {s : Shared} {h₀ : Heap} {L pl : Addr} {m : Str → Option Value} {all : List (Addr × Obj)} {vs : List Value} {k : Nat} {x : Value} {Q : Value → Shared → Prop}
    (F : Fr h₀ L s.heap m) (N : News h₀ L s.heap ((pl, listOf vs.toArray k) :: all)) (hoff : ∀ p ∈ all, p.1 ≠ pl) (hl : vs.length ≤ 100000)
    (h : ∀ h', Fr h₀ L h' m → News h₀ L h' ((pl, listOf (vs ++ [x]).toArray (k + 1)) :: all) → Q .none { s with heap := h' }) :
    wpAny (model prog w) A (call (.builtin "list.append") [.ref pl, x]) Q E s := by
  have hz := N (pl, _) (.head _)
  refine append_at (hsz := by rw [List.size_toArray, PySem.sizeLine_eq]; omega) hz.1 fun h' hs he => h h' (F.change hs hz.2.1 hz.2.2) fun p hp => ?_
  rcases List.mem_cons.mp hp with rfl | hp
  · refine ⟨he.trans ?_, hz.2⟩
    rw [List.push_toArray]
  · have z := N p (.tail _ hp)
    exact ⟨hs.extBut _ _ (hoff p hp) z.1, z.2⟩
/-- the table's state within a loop -/
noncomputable def TJ (w : World) (d : Addr) (od : Obj) (ex tl : List (Addr × Obj)) (D : Tab) (nx : List (Addr × Obj)) : Prop :=
  ∃ o' tl', nx = (d, o') :: (tl' ++ (ex ++ tl)) ∧ TbOff tl' ((d, od) :: (ex ++ tl)) ∧ TabO rowP w (tl' ++ tl) o' D
section
variable {w : World} {h₀ h : Heap} {L d I : Addr} {od o' o'' oI : Obj} {ex tl tl' tl'' : List (Addr × Obj)} {D : Tab}
theorem tj_in (N : News h₀ L h ((I, oI) :: (d, o') :: (tl' ++ (ex ++ tl)))) : News h₀ L h ((d, o') :: (((I, oI) :: ex) ++ (tl' ++ tl))) :=
  reorder N (by (repeat' first | refine sub_a ?_ ?_ | refine sub_c ?_ ?_) <;> first | exact no_mem | kn_among | (intro q hq; kn_among))
theorem tj_inOff (hI : ∀ p ∈ (d, o') :: (tl' ++ (ex ++ tl)), p.1 ≠ I) (hoff : ∀ p ∈ ex ++ tl, p.1 ≠ d) (ho : TbOff tl' ((d, od) :: (ex ++ tl))) : ∀ p ∈ ((I, oI) :: ex) ++ (tl' ++ tl), p.1 ≠ d := by
  intro p hp
  simp only [List.mem_cons, List.mem_append, List.cons_append] at hp
  rcases hp with rfl | h | h | h
  · exact Ne.symm (hI (d, o') (.head _))
  · exact hoff p (List.mem_append.mpr (.inl h))
  · exact ho p h _ (.head _)
  · exact hoff p (List.mem_append.mpr (.inr h))
theorem tj_out (ho : TbOff tl' ((d, od) :: (ex ++ tl))) (ho2 : TbOff tl'' ((d, o') :: (((I, oI) :: ex) ++ (tl' ++ tl)))) (T : TabO rowP w (tl'' ++ (tl' ++ tl)) o'' D) : TJ w d od ex tl D ((d, o'') :: ((tl'' ++ tl') ++ (ex ++ tl))) := by
  refine ⟨o'', tl'' ++ tl', rfl, fun p hp q hq => ?_, by rw [List.append_assoc]; exact T⟩
  rcases List.mem_append.mp hp with h | h
  · rcases List.mem_cons.mp hq with rfl | hq
    · exact (show p.1 ≠ d from ho2 p h (d, o') (.head _))
    · refine ho2 p h q (List.mem_cons_of_mem _ ?_)
      rcases List.mem_append.mp hq with h | h <;> kn_among
  · exact ho p h q hq
theorem tj_sub (p : Addr × Obj) (hp : p ∈ (d, o'') :: ((tl'' ++ tl') ++ (ex ++ tl))) : p ∈ (d, o'') :: (tl'' ++ (((I, oI) :: ex) ++ (tl' ++ tl))) := by
  revert p; (repeat' first | refine sub_a ?_ ?_ | refine sub_c ?_ ?_) <;> first | exact no_mem | kn_among | (intro q hq; kn_among)
theorem tj_offI (hI : ∀ p ∈ (d, o') :: (tl' ++ (ex ++ tl)), p.1 ≠ I) (ho2 : TbOff tl'' ((d, o') :: (((I, oI) :: ex) ++ (tl' ++ tl)))) : ∀ p ∈ (d, o'') :: ((tl'' ++ tl') ++ (ex ++ tl)), p.1 ≠ I := by
  intro p hp
  simp only [List.mem_cons, List.mem_append, List.append_assoc] at hp
  rcases hp with rfl | h | h | h | h
  · exact hI (d, o') (.head _)
  · exact ho2 p h (I, oI) (.tail _ (.head _))
  · exact hI p (by kn_among)
  · exact hI p (by kn_among)
  · exact hI p (by kn_among)
end
end Mine

local macro_rules | `(tactic| k_mem) => `(tactic| first | exact List.mem_cons_self | ktr_member | with_reducible assumption | (refine List.mem_cons_of_mem _ ?_; k_mem) | (refine List.mem_append.mpr (Or.inr ?_); k_mem) | (refine List.mem_append.mpr (Or.inl ?_); k_mem))

namespace Mine
theorem quietT1 : True := by
  w_top off
  trivial
open PySem PySem.W PyProof.Rows PySem.Spec PySem.Calls
set_option Elab.async false
set_option maxRecDepth 100000
set_option maxHeartbeats 1000000
theorem at_turn {w : World} {mean : ExcName → Option Value} {mg mb : Str → Option Value} {h₀ : Heap} {L fa : Addr} {c : Value} {m : Str → Option Value} {s : Shared} {Q : Flow → Shared → Prop} {E : Value → Shared → Prop}
    {ex tl : List (Addr × Obj)} {d r : Addr} {od : Obj} {D : Tab} {σ : Sc} {p a : Int} {tp ta : Tok} {n : Nat}
    (B : Below callerA h₀ [] h₀) (X : (hd.heap_39 w.params).In h₀) (T : Top hd.view_39 (looseW hd.view_39 []) mean mg mb h₀) (F : Fr h₀ L s.heap m) (N : News h₀ L s.heap ((d, od) :: (ex ++ tl)))
    (hm1 : m (Str.ofString "place") = some (.int p tp)) (hm2 : m (Str.ofString "at") = some (.int a ta)) (hm3 : m (Str.ofString "told") = some (.ref d)) (hm4 : m (Str.ofString "scan") = some (.ref r))
    (hσ : ScanIn w.params tl r σ) (hT : TabO rowP w tl od D) (hoff : ∀ p ∈ ex ++ tl, p.1 ≠ d) (lo : (d == sysModules) = false) (hn : SmallT n D) (hn2 : n ≤ 10000)
    (ret : ∀ h' tk' o' tl', Fr h₀ L h' m → News h₀ L h' ((d, o') :: (tl' ++ (ex ++ tl))) → TbOff tl' ((d, od) :: (ex ++ tl)) → TabO rowP w (tl' ++ tl) o' (tell (σ.hi, σ.lo) D (p, a)) → Q .next { s with heap := h', toks := tk' }) :
    wpAny (model rowP w) (lawA L fa c) (execs atBody (lawEnv L fa c)) Q E s := by
  dsimp only [lawScope, atBody, lawScopeS, atBodyS, rowP, lawA, lawEnv]
  have hps : ∀ q ∈ [(Str.ofString "place", Value.int p tp), (Str.ofString "at", Value.int a ta), (Str.ofString "told", Value.ref d), (Str.ofString "scan", Value.ref r)], m q.1 = some q.2 := by
    intro q hq
    simp only [List.mem_cons, List.not_mem_nil, or_false] at hq
    rcases hq with rfl | rfl | rfl | rfl <;> assumption
  have F0 := fr_kst _ F hps
  clear F
  clear hm1 hm2 hm3 hm4
  obtain ⟨ds, lp, l1, l2, vp, v1, v2, np, n1, n2, nd, k1, k2, k3, k4, k5, k6, k7, t1, t2, t3, t4, hs1, hs2, hs3, hs4, hs5, hi1, hi2, hi3⟩ := hσ
  k_with_none
  revert X; k_fill; intro X
  k_with "addl!" => k_dflt (
    refine' add_lists (vs := vs9) (ws := [_]) ?g1 ?g2 ?g3 ?g4 ?g5 ?_
    case g1 => k_asm
    case g2 => k_asm
    case g3 => k_mem
    case g4 => k_mem
    case g5 => (have hg9 := hn.get (k := (p, a)); have hl9 := hp9.length; rw [List.length_singleton]; omega)
    intro D9 h9 F9 N9 l1
    k_lt l1
    try dsimp only)
  k_with "set!" => k_dflt (
    rename (_ < _ ∧ AllLt _ (ex ++ tl)) => q1
    rename (_ < _ ∧ _ < _ ∧ AllLt _ (ex ++ tl)) => q2
    rename (_ < _ ∧ _ < _ ∧ _ < _ ∧ AllLt _ (ex ++ tl)) => q3
    rename (_ < _ ∧ _ < _ ∧ _ < _ ∧ _ < _ ∧ AllLt _ (ex ++ tl)) => q4
    rename (_ < _ ∧ _ < _ ∧ _ < _ ∧ _ < _ ∧ _ < _ ∧ AllLt _ (ex ++ tl)) => q5
    rename (_ < _ ∧ _ < _ ∧ _ < _ ∧ _ < _ ∧ _ < _ ∧ _ < _ ∧ AllLt _ (ex ++ tl)) => q6
    with_reducible rename News _ _ _ _ => N9
    have hO := off6 N9 q6.2.2.2.2.2 q5.2.2.2.2 q4.2.2.2 q3.2.2 q2.2 q1
    have N9 := front6 N9
    refine' set_tab (tl := [_, _, _, _, _, _] ++ tl) (x := tp) (y := ta) (ps := (getT (p, a) D).getD [] ++ [(σ.hi, σ.lo)]) ?g1 N9 (off_head hO hoff) ?g3 (hT.mono ?g2) ?g4 ?g5 ?g6 ?g7 ?_
    case g1 => k_asm
    case g3 => exact sub_mid
    case g2 => exact sub_app
    case g4 => k_mem
    case g5 => k_units
    case g6 => exact ⟨_, _, _, rfl, by k_mem, (hp9.mono sub_app).append (.cons (by k_mem) .nil)⟩
    case g7 => exact Nat.le_trans hn.1 (by omega)
    intro h8 o8 F8 N8 hT8
    try dsimp only)
  k_with "getm!" => k_dflt (
    refine' getm_tab (tl := tl) ?g1 ?g2 ?g3 hT ?_
    case g1 => k_asm
    case g2 => (intro p hp; k_mem)
    case g3 => k_mem
    try dsimp only)
  k_with "get!" => k_dflt (
    refine' get_tab (x := tp) (y := ta) (tl := tl) (k := 0) ?g1 ?g2 ?g3 lo hT ?g4 ?g5 ?g6 ?_
    case g1 => k_asm
    case g2 => (intro p hp; k_mem)
    case g3 => k_mem
    case g4 => k_mem
    case g5 => k_units
    case g6 => k_mem
    intro a9 vs9 n9 hm9 hp9
    try dsimp only)
  k_steps
  refine ret _ _ _ _ (kst_fr _ F8 hps) N8 hO hT8
end Mine

namespace Mine
theorem quietT2 : True := by
  w_top off
  trivial
open PySem PySem.W PyProof.Rows PySem.Spec PySem.Calls
set_option Elab.async false
set_option maxRecDepth 100000
set_option maxHeartbeats 1000000
theorem place_turn {w : World} {mean : ExcName → Option Value} {mg mb : Str → Option Value} {h₀ : Heap} {L fa : Addr} {c : Value} {m : Str → Option Value} {s : Shared} {Q : Flow → Shared → Prop} {E : Value → Shared → Prop}
    {ex tl : List (Addr × Obj)} {d r : Addr} {od : Obj} {D : Tab} {σ : Sc} {p : Int} {tp : Tok} {n : Nat}
    (B : Below callerA h₀ [] h₀) (X : (hd.heap_39 w.params).In h₀) (T : Top hd.view_39 (looseW hd.view_39 []) mean mg mb h₀) (F : Fr h₀ L s.heap m) (N : News h₀ L s.heap ((d, od) :: (ex ++ tl)))
    (hm1 : m (Str.ofString "place") = some (.int p tp)) (hm3 : m (Str.ofString "told") = some (.ref d)) (hm4 : m (Str.ofString "scan") = some (.ref r))
    (hσ : ScanIn w.params tl r σ) (hse : 0 ≤ σ.st ∧ σ.st ≤ 16 ∧ 0 ≤ σ.en ∧ σ.en ≤ 16) (hT : TabO rowP w tl od D) (hoff : ∀ p ∈ ex ++ tl, p.1 ≠ d) (lo : (d == sysModules) = false) (hn : SmallT n D) (hn2 : n ≤ 9000)
    (ret : ∀ h' tk' m' o' tl', Fr h₀ L h' m' → (∀ z, z ≠ Str.ofString "at" → m' z = m z) → News h₀ L h' ((d, o') :: (tl' ++ (ex ++ tl))) → TbOff tl' ((d, od) :: (ex ++ tl)) → TabO rowP w (tl' ++ tl) o' (tellRow (σ.hi, σ.lo) p D (ats σ.st σ.en)) → Q .next { s with heap := h', toks := tk' }) :
    wpAny (model rowP w) (lawA L fa c) (execs placeBody (lawEnv L fa c)) Q E s := by
  refine wpAny_noRaise ?_
  dsimp only [lawScope, placeBody, lawScopeS, placeBodyS, rowP, lawA, lawEnv]
  have hps : ∀ q ∈ [(Str.ofString "place", Value.int p tp), (Str.ofString "told", Value.ref d), (Str.ofString "scan", Value.ref r)], m q.1 = some q.2 := by
    intro q hq
    simp only [List.mem_cons, List.not_mem_nil, or_false] at hq
    rcases hq with rfl | rfl | rfl <;> assumption
  have F0 := fr_kst _ F hps
  clear F
  have hσ0 := hσ
  obtain ⟨ds, lp, l1, l2, vp, v1, v2, np, n1, n2, nd, k1, k2, k3, k4, k5, k6, k7, t1, t2, t3, t4, hs1, hs2, hs3, hs4, hs5, hi1, hi2, hi3⟩ := hσ
  obtain ⟨hst0, hst1, hen0, hen1⟩ := hse
  k_with_none
  have X0 := X
  revert X; k_fill; intro X
  k_with "for!" => k_dflt (
    (rename Fr _ _ _ _ => lF')
    with_unfolding_all refine' For_invVF lF' ?k1 ?k2 ?_
    case k1 => exact rfl
    case k2 => exact rfl
    k_whole)
  k_with "pyIter ref!" => k_dflt (
    refine' for_range (n := (σ.en + 1 - σ.st).toNat) (σ := Unit) [] (fun _ => []) (fun i _ nx => TJ w d od ex tl (tellRow (σ.hi, σ.lo) p D ((ats σ.st σ.en).take i)) nx) () ?e1 ?e2 ?e3 ?e4 ?e5 ?e6 ?e7 ?e8 ?turn ?done
    case e1 => rfl
    case e2 => assumption
    case e3 => exact small_one (by omega) (by omega) (by omega) (by omega)
    case e4 => exact rangeSize_nat _ _
    case e5 => k_asm
    case e6 => k_asm
    case e7 => exact fun _ h => nomatch h
    case e8 => exact ⟨od, [], rfl, off_nil, hT⟩
    case turn =>
      intro i c' t u nx I oI h tk hi hJ hI F1 N1
      obtain ⟨o', tl', rfl, ho', hT'⟩ := hJ
      have hlen : ((ats σ.st σ.en).take i).length ≤ 17 := by rw [List.length_take, ats_length]; omega
      refine at_turn (ex := (I, oI) :: ex) (tl := tl' ++ tl) (p := p) (a := σ.st + (i : Int)) (σ := σ) (r := r) B X0 T F1 (tj_in N1) rfl rfl rfl rfl (hσ0.mono sub_app) hT' (tj_inOff hI hoff ho') lo (SmallT.row _ hn) (by omega) ?_
      intro h' tk' o'' tl'' F2 N2 ho2 hT2
      refine (show LEnd _ _ _ _ _ _ _ from LEnd.intro F2 N2 (List.mem_cons_of_mem _ (List.mem_append.mpr (.inr (.head _)))) (fun p hp => tj_sub p hp) (tj_offI hI ho2) ⟨(), ?_, ⟨(fun _ h => nomatch h), fun z hz _ => if_neg hz⟩⟩)
      · rw [take_snoc (ats_get hi), tellRow_snoc]
        exact tj_out ho' ho2 hT2
    case' done =>
      intro c' u nx h tk hJ F1 N1
      obtain ⟨o', tl', rfl, ho', hT'⟩ := hJ
      rw [List.take_of_length_le (by rw [ats_length]; exact Nat.le_refl _)] at hT'
    try dsimp only)
  k_steps
  refine ret _ _ _ _ _ F1 (fun z hz => ?_) N1 ho' hT'
  exact (if_neg hz).trans (show kstB m _ z = m z from kstB_eq hps fun _ => rfl)
end Mine

namespace Mine
theorem quietT3 : True := by
  w_top off
  trivial
open PySem PySem.W PyProof.Rows PySem.Spec PySem.Calls
set_option Elab.async false
set_option maxRecDepth 100000
set_option maxHeartbeats 1000000
noncomputable def slot1 (p : Int) : Int := if decide (0 < p) = true then 1 else 0
theorem slots_eq {ps : List Int} (h : ∀ p ∈ ps, 0 ≤ p) : ps.map slot = ps.map slot1 := by
  refine List.map_congr_left fun p hp => ?_
  have := h p hp
  unfold slot slot1
  rcases Int.lt_or_eq_of_le this with h | h
  · rw [if_neg (by omega), if_pos (decide_eq_true h)]
  · subst h; rfl
theorem toPl {h₀ h : Heap} {L : Addr} {x y a b : Addr × Obj} {l : List (Addr × Obj)} (N : News h₀ L h (x :: y :: a :: b :: l)) : News h₀ L h (b :: a :: ([x, y] ++ l)) :=
  reorder N (by (repeat' first | refine sub_a ?_ ?_ | refine sub_c ?_ ?_) <;> first | exact no_mem | kn_among | (intro q hq; kn_among))
theorem off2 {h₀ h : Heap} {L : Addr} {x y a b : Addr × Obj} {l : List (Addr × Obj)} (_ : News h₀ L h (b :: a :: ([x, y] ++ l))) (h1 : AllLt x.1 (a :: b :: l)) (h2 : LCg.Off1 y.1 (a :: b :: l)) : TbOff [x, y] (a :: b :: l) :=
  off_lt' h1 (off_cons (ne_of_off1 h2) off_nil)
theorem offPl {d pl : Addr} {od op : Obj} {t l : List (Addr × Obj)} (h : TbOff t ((d, od) :: (pl, op) :: l)) (k : ∀ p ∈ l, p.1 ≠ pl) (hd : @Ne Nat d pl) : ∀ p ∈ (d, od) :: (t ++ l), p.1 ≠ pl := fun p hp => by
  rcases List.mem_cons.mp hp with rfl | hp
  · exact hd
  · rcases List.mem_append.mp hp with hp | hp
    · exact h p hp _ (.tail _ (.head _))
    · exact k p hp
theorem toTJ {h₀ h : Heap} {L : Addr} {x y a b : Addr × Obj} {ex tl : List (Addr × Obj)} (N : News h₀ L h (b :: a :: ([x, y] ++ (ex ++ tl)))) : News h₀ L h (a :: ([] ++ ((b :: ([x, y] ++ ex)) ++ tl))) :=
  reorder N (by (repeat' first | refine sub_a ?_ ?_ | refine sub_c ?_ ?_) <;> first | exact no_mem | kn_among | (intro q hq; kn_among))
theorem toTJ' {h₀ h : Heap} {L : Addr} {x y a b : Addr × Obj} {ex tl : List (Addr × Obj)} (N : News h₀ L h (b :: a :: ([x, y] ++ (ex ++ tl)))) : ∃ exA, exA = b :: ([x, y] ++ ex) ∧ News h₀ L h (a :: ([] ++ (exA ++ tl))) := ⟨_, rfl, toTJ N⟩
theorem offTJ {d pl : Addr} {od op op' : Obj} {x y : Addr × Obj} {ex tl : List (Addr × Obj)} (h : TbOff [x, y] ((d, od) :: (pl, op) :: (ex ++ tl))) (k : ∀ p ∈ ex ++ tl, p.1 ≠ d) (hd : @Ne Nat d pl) : ∀ p ∈ ((pl, op') :: ([x, y] ++ ex)) ++ tl, p.1 ≠ d := by
  intro p hp
  simp only [List.mem_cons, List.mem_append, List.not_mem_nil, or_false, false_or, List.cons_append] at hp
  rcases hp with rfl | rfl | rfl | hp | hp
  · exact Ne.symm hd
  · exact h _ (.head _) _ (.head _)
  · exact h _ (.tail _ (.head _)) _ (.head _)
  · exact k p (List.mem_append.mpr (.inl hp))
  · exact k p (List.mem_append.mpr (.inr hp))
theorem pass_mem {st hi lw : Int} {D : Addr} {a b c : Tok} {y : Addr × Obj} {tl' : List (Addr × Obj)} :
    (D, tup4 (decide (st = 0)) hi lw (min st 6) a b c) ∈ tl' ++ [(D, { cls := .type "tuple", data := .seq #[.bool (st == 0), .int hi a, .int lw b, .int (if 6 < st then 6 else st) c] }), y] := by
  have e : min st 6 = if 6 < st then 6 else st := by split <;> omega
  rw [e]
  exact List.mem_append.mpr (.inr (.head _))
theorem sub_mid1 {x y : Addr × Obj} {tl' tl : List (Addr × Obj)} : ∀ p ∈ tl' ++ tl, p ∈ (tl' ++ [x, y]) ++ tl := fun p hp => by
  revert p; (repeat' first | refine sub_a ?_ ?_ | refine sub_c ?_ ?_) <;> first | exact no_mem | kn_among | (intro q hq; kn_among)
theorem not_in1 {z a : Str} (h : z ≠ a) : [a].contains z = false := by simp [h]
theorem outPl {h₀ h : Heap} {L d pl : Addr} {o' op' : Obj} {x y : Addr × Obj} {exA ex tl tl' : List (Addr × Obj)} (e : exA = (pl, op') :: ([x, y] ++ ex)) (N : News h₀ L h ((d, o') :: (tl' ++ (exA ++ tl)))) :
    News h₀ L h ((d, o') :: (pl, op') :: ((tl' ++ [x, y]) ++ (ex ++ tl))) := by
  subst e
  exact reorder N (by (repeat' first | refine sub_a ?_ ?_ | refine sub_c ?_ ?_) <;> first | exact no_mem | kn_among | (intro q hq; kn_among))
theorem outOff {d pl : Addr} {od op op' : Obj} {x y : Addr × Obj} {exA ex tl tl' : List (Addr × Obj)} (e : exA = (pl, op') :: ([x, y] ++ ex)) (ho : TbOff tl' ((d, od) :: (exA ++ tl))) (hO : TbOff [x, y] ((d, od) :: (pl, op) :: (ex ++ tl))) :
    TbOff (tl' ++ [x, y]) ((d, od) :: (pl, op) :: (ex ++ tl)) := by
  subst e
  intro p hp q hq
  rcases List.mem_append.mp hp with h | h
  · rcases List.mem_cons.mp hq with rfl | hq
    · exact ho p h _ (.head _)
    · rcases List.mem_cons.mp hq with rfl | hq
      · exact (show p.1 ≠ pl from ho p h (pl, op') (.tail _ (.head _)))
      · refine ho p h q ?_
        rcases List.mem_append.mp hq with h | h <;> kn_among
  · exact hO p h q hq
structure Good (σ : Sc) : Prop where
  st0 : 0 ≤ σ.st
  st1 : σ.st ≤ 16
  en0 : 0 ≤ σ.en
  en1 : σ.en ≤ 16
  pos : ∀ p ∈ σ.ps, 0 ≤ p
  few : σ.ps.length ≤ 5
  one : 0 < σ.st → σ.ps.length = 1
  dc : σ.st = 0 → σ.en = 0
theorem scan_turn {w : World} {mean : ExcName → Option Value} {mg mb : Str → Option Value} {h₀ : Heap} {L fa : Addr} {c : Value} {m : Str → Option Value} {s : Shared} {Q : Flow → Shared → Prop} {E : Value → Shared → Prop}
    {ex tl : List (Addr × Obj)} {d r pl : Addr} {od oc : Obj} {pv : List Value} {kp : Nat} {D : Tab} {σ : Sc} {n : Nat}
    (B : Below callerA h₀ [] h₀) (X : (hd.heap_39 w.params).In h₀) (T : Top hd.view_39 (looseW hd.view_39 []) mean mg mb h₀) (F : Fr h₀ L s.heap m) (N : News h₀ L s.heap ((d, od) :: (pl, listOf pv.toArray kp) :: (ex ++ tl)))
    (hm3 : m (Str.ofString "told") = some (.ref d)) (hm4 : m (Str.ofString "scan") = some (.ref r)) (hc : (L + 1 + 1 + 1 + 1, oc) ∈ tl) (hcd : oc.data = Data.cell (some (.ref pl)))
    (hσ : ScanIn w.params tl r σ) (hg : Good σ) (hT : TabO rowP w tl od D) (hoff : ∀ p ∈ ex ++ tl, p.1 ≠ d) (hoff2 : ∀ p ∈ ex ++ tl, p.1 ≠ pl) (hdp : @Ne Nat d pl) (lo : (d == sysModules) = false) (hn : SmallT n D) (hn2 : n ≤ 8000) (hpv : pv.length ≤ 1000)
    (ret : ∀ h' tk' m' o' tl' x u1 u2 u3, Fr h₀ L h' m' → (∀ z, z ≠ Str.ofString "place" → z ≠ Str.ofString "at" → m' z = m z) → News h₀ L h' ((d, o') :: (pl, listOf (pv ++ [Value.ref x]).toArray (kp + 1)) :: (tl' ++ (ex ++ tl))) →
      TbOff tl' ((d, od) :: (pl, listOf pv.toArray kp) :: (ex ++ tl)) → TabO rowP w (tl' ++ tl) o' (tellScan (σ.hi, σ.lo) (ats σ.st σ.en) D σ.ps) → (x, tup4 (decide (σ.st = 0)) σ.hi σ.lo (min σ.st 6) u1 u2 u3) ∈ tl' → Q .next { s with heap := h', toks := tk' }) :
    wpAny (model rowP w) (lawA L fa c) (execs scanBody (lawEnv L fa c)) Q E s := by
  refine wpAny_noRaise ?_
  dsimp only [lawScope, scanBody, lawScopeS, scanBodyS, rowP, lawA, lawEnv]
  have hps : ∀ q ∈ [(Str.ofString "told", Value.ref d), (Str.ofString "scan", Value.ref r)], m q.1 = some q.2 := by
    intro q hq
    simp only [List.mem_cons, List.not_mem_nil, or_false] at hq
    rcases hq with rfl | rfl <;> assumption
  have F0 := fr_kst _ F hps
  clear F
  have hσ0 := hσ
  obtain ⟨ds, lp, a1, a2, vp, v1, v2, np, n1, n2, nd, k1, k2, k3, k4, k5, k6, k7, t1, t2, t3, t4, hs1, hs2, hs3, hs4, hs5, hi1, hi2, hi3⟩ := hσ
  have hcase : (σ.st = 0 ∧ σ.en = 0) ∨ (0 < σ.st ∧ (¬ σ.st = 0) ∧ vp.length = 1) := by
    rcases Int.lt_or_eq_of_le hg.st0 with h | h
    · exact .inr ⟨h, by omega, by rw [hi1.length]; exact hg.one h⟩
    · exact .inl ⟨h.symm, hg.dc h.symm⟩
  k_with_none
  have X0 := X
  revert X; k_fill; intro X
  k_with "append!" => k_dflt (first | exact absurd (show st = 0 by assumption) z3 | exact absurd z4 (by assumption) | exact absurd z5 (by assumption) | (
      rename (_ < _ ∧ _ < _ ∧ _ < _ ∧ AllLt _ (ex ++ tl)) => q1
      rename (_ ≠ _ ∧ _ ≠ _ ∧ LCg.Off1 _ (ex ++ tl)) => q2
      with_reducible rename News _ _ _ _ => N9
      have N9 := toPl N9
      have hO := off2 N9 q1.2 q2
      refine' app_list (vs := pv) (k := kp) ?g1 N9 (offPl hO hoff2 hdp) ?g2 ?_
      case g1 => k_asm
      case g2 => omega
      intro h8 F8 N8
      obtain ⟨exA, hEx, N8⟩ := toTJ' N8
      have hoffA : ∀ p ∈ exA ++ tl, p.1 ≠ d := by rw [hEx]; exact offTJ hO hoff hdp
      try dsimp only))
  k_with "ne!" => k_dflt (
    with_reducible show wpAny _ _ (compareOp _ (Value.ref a1) (Value.ref _)) _ _ _
    rename IntsAre _ (List.map slot1 _) => hi4
    refine' ne_intsK (vs := v1) ?k1 hi2 ?k3 hi4 ?k5 ?_
    case k1 => exact News.isList (by k_asm) (by k_mem)
    case k3 => exact News.isList (by k_asm) (by k_mem)
    case k5 => k_units
    rw [slots_eq hg.pos]
    simp only [decide_true, Bool.not_true]
    k_whole
    try dsimp only)
  k_with "ne!" => k_dflt (
    with_reducible show wpAny _ _ (compareOp _ (Value.ref a1) (Value.ref a2)) _ _ _
    refine' ne_intsK (vs := v1) (us := v2) ?k1 hi2 ?k3 hi3 ?k5 ?_
    case k1 => exact News.isList (by k_asm) (by k_mem)
    case k3 => exact News.isList (by k_asm) (by k_mem)
    case k5 => k_units
    simp only [decide_true, Bool.not_true]
    k_whole
    try dsimp only)
  k_with "eval ListComp!" => k_dflt (refine LCg.ListComp_U (F₀ := by k_asm) (by with_unfolding_all rfl) (by decide) (by rfl) (by decide) (by rfl) ?_)
  k_with "CompSrc!" => (k_dflt (refine LCg.CompSrc.ledger (by rfl) (by k_asm) (by k_asm) (by k_mem) (by (have z1 := hi1.length; rw [PySem.sizeLine_eq]; simp only [List.size_toArray]; omega)) ?_); intro g'; refine' kcf_list slot1 hi1 (fun k' t' I' oI' C' oC' D' m' ys' h' tk' E' hk' hC' hx' F' N' off' ne' hMark' => ?_) ?_; (all_goals (try (simp only [LCg.Off3, and_true] at off'))); kcf_last)
  k_with "for!" => k_dflt (
    (rename Fr _ _ _ _ => lF')
    with_unfolding_all refine' For_invVF lF' ?k1 ?k2 ?_
    case k1 => exact rfl
    case k2 => exact rfl
    k_whole)
  k_with "pyIter ref!" => k_dflt (
    refine' for_list (l := lp) (its := vp.toArray) (k := np) (σ := Unit) [Str.ofString "at"] (fun _ => []) (fun i _ nx => TJ w d od exA tl (tellScan (hi, lw) (ats st en) D (ps.take i)) nx) () ?e1 ?e2 ?e3 ?e4 ?e5 ?e6 ?turn ?_
    case e4 => exact N8
    case e6 => exact ⟨od, [], rfl, off_nil, hT⟩
    case e1 => rfl
    case e2 => (rintro i c' nx ⟨o', tl', rfl, _, _⟩; k_mem)
    case e3 => k_asm
    case e5 => exact fun _ h => nomatch h
    case turn =>
      intro i c' v u nx I oI h tk hi' hv hJ hI F1 N1
      obtain ⟨o', tl', rfl, ho', hT'⟩ := hJ
      have hlen := hi1.length
      rw [List.size_toArray] at hi'
      have hq := List.getElem?_eq_getElem (l := ps) (i := i) (by omega)
      generalize ps[i] = q at hq
      obtain ⟨tq, hv'⟩ := hi1.get i q hq
      rw [List.getElem?_toArray, hv'] at hv
      obtain rfl := Option.some.inj hv
      have hS := SmallT.scan (hl := (hi, lw)) (ats17 hg.en1 hg.st0) (ps.take i) hn
      have hS2 : (ps.take i).length ≤ 5 := by rw [List.length_take]; omega
      refine place_turn (ex := (I, oI) :: _) (tl := tl' ++ tl) (p := q) (σ := ⟨ps, st, en, hi, lw⟩) (r := r) B X0 T F1 (tj_in N1) rfl rfl rfl (hσ0.mono sub_app) ⟨hg.st0, hg.st1, hg.en0, hg.en1⟩ hT' (tj_inOff hI hoffA ho') lo hS (by omega) ?_
      intro h' tk' m' o'' tl'' F2 hm2 N2 ho2 hT2
      refine (show LEnd _ _ _ _ _ _ _ from LEnd.intro F2 N2 (List.mem_cons_of_mem _ (List.mem_append.mpr (.inr (.head _)))) (fun p hp => tj_sub p hp) (tj_offI hI ho2) ⟨(), ?_, ⟨(fun _ h => nomatch h), fun z hz hz2 => ?_⟩⟩)
      · rw [take_snoc hq, tellScan_snoc]
        exact tj_out ho' ho2 hT2
      · refine (hm2 z (not_name hz2 _ rfl)).trans ((if_neg hz).trans ?_)
        exact says_rest hz2 (fun _ h => nomatch h)
    intro c' u nx h tk hJ F1 N1
    obtain ⟨o', tl', rfl, ho', hT'⟩ := hJ
    rw [List.size_toArray, hi1.length, List.take_length] at hT'
    try dsimp only)
  k_with "len!" => k_dflt ((refine' kun_lenL (items := vp.toArray) (k := 1) ?k1 ?k2 ?k3 ?_; (case k1 => exact News.isList (by k_asm) (by k_mem)); (case k2 => rw [List.size_toArray]; rw [z2]; rfl); (case k3 => decide); (try dsimp only)))
  obtain ⟨ps, st, en, hi, lw⟩ := σ
  dsimp only at *
  have hfew : ps.length ≤ 5 := hg.few
  rcases hcase with ⟨z4, z5⟩ | ⟨z1, z3, z2⟩
  all_goals k_steps
  all_goals first
    | exact kcf_el rfl rfl rfl
    | exact absurd (show st = 0 by assumption) z3
    | exact absurd z4 (by assumption)
    | exact absurd z5 (by assumption)
    | refine ret _ _ _ _ _ _ _ _ _ F1 (fun z hz hz2 => (if_neg hz).trans ((says_rest (not_in1 hz2) no_mem).trans (kstB_eq hps fun _ => rfl))) (outPl hEx N1) (outOff hEx ho' hO) (hT'.mono sub_mid1) pass_mem
end Mine

namespace Mine
theorem quietT4 : True := by
  w_top off
  trivial
open PySem PySem.W PyProof.Rows PySem.Spec PySem.Calls
set_option Elab.async false
set_option maxRecDepth 100000
set_option maxHeartbeats 1000000
noncomputable def toldStep (D : Tab) (σ : Sc) : Tab := tellScan (σ.hi, σ.lo) (ats σ.st σ.en) D σ.ps
noncomputable def toldOf (σs : List Sc) : Tab := σs.foldl toldStep []
theorem toldOf_snoc {σs : List Sc} {σ : Sc} : toldOf (σs ++ [σ]) = toldStep (toldOf σs) σ := by simp [toldOf]
noncomputable def passOf (σ : Sc) : Bool × Int × Int × Int := (decide (σ.st = 0), σ.hi, σ.lo, min σ.st 6)
theorem told_small {σs : List Sc} (hg : ∀ σ ∈ σs, Good σ) : ∀ i, i ≤ σs.length → SmallT (i * 85) (toldOf (σs.take i)) := by
  intro i
  induction i with
  | zero => exact fun _ => ⟨Nat.zero_le _, fun _ h => nomatch h⟩
  | succ i ih =>
    intro hi
    have hq := List.getElem?_eq_getElem (l := σs) (i := i) (by omega)
    rw [take_snoc hq, toldOf_snoc]
    have g := hg _ (List.mem_of_getElem? hq)
    have := SmallT.scan (hl := (σs[i].hi, σs[i].lo)) (ats17 g.en1 g.st0) σs[i].ps (ih (by omega))
    exact this.mono (by have := g.few; omega)
theorem AreScans.at {P : Params} {news : List (Addr × Obj)} {v : Value} {vs : List Value} {σs : List Sc} (h : AreScans P news vs σs) {i : Nat} (hi : vs[i]? = some v) : ∃ r σ, v = .ref r ∧ ScanIn P news r σ ∧ σs[i]? = some σ := by
  obtain ⟨σ, ⟨r, e, hσ⟩, hq⟩ := pr_at h hi
  exact ⟨r, σ, e, hσ, hq⟩
noncomputable def SJ2 (w : World) (d pl : Addr) (od op : Obj) (ex tl : List (Addr × Obj)) (σs : List Sc) (nx : List (Addr × Obj)) : Prop :=
  ∃ o' pv kp tl', nx = (d, o') :: (pl, listOf pv.toArray kp) :: (tl' ++ (ex ++ tl)) ∧ TbOff tl' ((d, od) :: (pl, op) :: (ex ++ tl)) ∧ TabO rowP w (tl' ++ tl) o' (toldOf σs) ∧ ArePass tl' pv (σs.map passOf)
section
variable {h₀ h : Heap} {L d pl I : Addr} {od op o' oI o2 p2 op' : Obj} {ex tl tl' tl'' : List (Addr × Obj)}
theorem sj_in (N : News h₀ L h ((I, oI) :: (d, o') :: (pl, op) :: (tl' ++ (ex ++ tl)))) : News h₀ L h ((d, o') :: (pl, op) :: (((I, oI) :: ex) ++ (tl' ++ tl))) :=
  reorder N (by (repeat' first | refine sub_a ?_ ?_ | refine sub_c ?_ ?_) <;> first | exact no_mem | kn_among | (intro q hq; kn_among))
theorem sj_off1 (hI : ∀ p ∈ (d, o') :: (pl, op') :: (tl' ++ (ex ++ tl)), p.1 ≠ I) (hoff : ∀ p ∈ ex ++ tl, p.1 ≠ d) (ho : TbOff tl' ((d, od) :: (pl, op) :: (ex ++ tl))) : ∀ p ∈ ((I, oI) :: ex) ++ (tl' ++ tl), p.1 ≠ d := by
  intro p hp
  simp only [List.mem_cons, List.mem_append, List.cons_append] at hp
  rcases hp with rfl | h | h | h
  · exact Ne.symm (hI (d, o') (.head _))
  · exact hoff p (List.mem_append.mpr (.inl h))
  · exact ho p h _ (.head _)
  · exact hoff p (List.mem_append.mpr (.inr h))
theorem sj_off2 (hI : ∀ p ∈ (d, o') :: (pl, op') :: (tl' ++ (ex ++ tl)), p.1 ≠ I) (hoff : ∀ p ∈ ex ++ tl, p.1 ≠ pl) (ho : TbOff tl' ((d, od) :: (pl, op) :: (ex ++ tl))) : ∀ p ∈ ((I, oI) :: ex) ++ (tl' ++ tl), p.1 ≠ pl := by
  intro p hp
  simp only [List.mem_cons, List.mem_append, List.cons_append] at hp
  rcases hp with rfl | h | h | h
  · exact Ne.symm (hI (pl, op') (.tail _ (.head _)))
  · exact hoff p (List.mem_append.mpr (.inl h))
  · exact ho p h _ (.tail _ (.head _))
  · exact hoff p (List.mem_append.mpr (.inr h))
theorem sj_out (ho : TbOff tl' ((d, od) :: (pl, op) :: (ex ++ tl))) (ho2 : TbOff tl'' ((d, o') :: (pl, op') :: (((I, oI) :: ex) ++ (tl' ++ tl)))) : TbOff (tl'' ++ tl') ((d, od) :: (pl, op) :: (ex ++ tl)) := by
  intro p hp q hq
  rcases List.mem_append.mp hp with h | h
  · rcases List.mem_cons.mp hq with rfl | hq
    · exact (show p.1 ≠ d from ho2 p h (d, o') (.head _))
    · rcases List.mem_cons.mp hq with rfl | hq
      · exact (show p.1 ≠ pl from ho2 p h (pl, op') (.tail _ (.head _)))
      · refine ho2 p h q ?_
        rcases List.mem_append.mp hq with h | h <;> kn_among
  · exact ho p h q hq
theorem sj_sub (p : Addr × Obj) (hp : p ∈ (d, o2) :: (pl, p2) :: ((tl'' ++ tl') ++ (ex ++ tl))) : p ∈ (d, o2) :: (pl, p2) :: (tl'' ++ (((I, oI) :: ex) ++ (tl' ++ tl))) := by
  revert p; (repeat' first | refine sub_a ?_ ?_ | refine sub_c ?_ ?_) <;> first | exact no_mem | kn_among | (intro q hq; kn_among)
theorem sj_offI (hI : ∀ p ∈ (d, o') :: (pl, op') :: (tl' ++ (ex ++ tl)), p.1 ≠ I) (ho2 : TbOff tl'' ((d, o') :: (pl, op') :: (((I, oI) :: ex) ++ (tl' ++ tl)))) : ∀ p ∈ (d, o2) :: (pl, p2) :: ((tl'' ++ tl') ++ (ex ++ tl)), p.1 ≠ I := by
  intro p hp
  simp only [List.mem_cons, List.mem_append, List.append_assoc] at hp
  rcases hp with rfl | rfl | h | h | h | h
  · exact hI (d, o') (.head _)
  · exact hI (pl, op') (.tail _ (.head _))
  · exact ho2 p h (I, oI) (.tail _ (.tail _ (.head _)))
  · exact hI p (by kn_among)
  · exact hI p (by kn_among)
  · exact hI p (by kn_among)
end
theorem not_in2 {z a b : Str} (h : z ≠ a) (h2 : z ≠ b) : [a, b].contains z = false := by simp [h, h2]
theorem part5 {w : World} {mean : ExcName → Option Value} {mg mb : Str → Option Value} {h₀ : Heap} {L fa : Addr} {c : Value} {m : Str → Option Value} {s : Shared} {Q : Flow → Shared → Prop} {E : Value → Shared → Prop}
    {ex tl : List (Addr × Obj)} {d pl sl : Addr} {od oc : Obj} {kp ks : Nat} {sv : List Value} {σs : List Sc}
    (B : Below callerA h₀ [] h₀) (X : (hd.heap_39 w.params).In h₀) (T : Top hd.view_39 (looseW hd.view_39 []) mean mg mb h₀) (F : Fr h₀ L s.heap m) (N : News h₀ L s.heap ((d, od) :: (pl, listOf #[] kp) :: (ex ++ tl)))
    (hm3 : m (Str.ofString "told") = some (.ref d)) (hm4 : m (Str.ofString "scans") = some (.ref sl)) (hc : (L + 1 + 1 + 1 + 1, oc) ∈ tl) (hcd : oc.data = Data.cell (some (.ref pl)))
    (hsl : (sl, listOf sv.toArray ks) ∈ tl) (hσ : AreScans w.params tl sv σs) (hg : ∀ σ ∈ σs, Good σ) (hlen : σs.length ≤ 90) (hT : TabO rowP w tl od []) (hoff : ∀ p ∈ ex ++ tl, p.1 ≠ d) (hoff2 : ∀ p ∈ ex ++ tl, p.1 ≠ pl) (hdp : @Ne Nat d pl) (lo : (d == sysModules) = false)
    (next : ∀ h' tk' m' o' pv kp' tl', Fr h₀ L h' m' → (∀ z, z ≠ Str.ofString "scan" → z ≠ Str.ofString "place" → z ≠ Str.ofString "at" → m' z = m z) → News h₀ L h' ((d, o') :: (pl, listOf pv.toArray kp') :: (tl' ++ (ex ++ tl))) →
      TbOff tl' ((d, od) :: (pl, listOf #[] kp) :: (ex ++ tl)) → TabO rowP w (tl' ++ tl) o' (toldOf σs) → ArePass tl' pv (σs.map passOf) →
      RunsAt w L fa c 6 Q { s with heap := h', toks := tk' }) :
    RunsAt w L fa c 5 Q s := by
  refine ⟨?_⟩
  dsimp only [lawScope, lawBody, lawScopeS, lawBodyS, rowP, lawA, lawEnv, List.drop]
  have hps : ∀ q ∈ [(Str.ofString "told", Value.ref d), (Str.ofString "scans", Value.ref sl)], m q.1 = some q.2 := by
    intro q hq
    simp only [List.mem_cons, List.not_mem_nil, or_false] at hq
    rcases hq with rfl | rfl <;> assumption
  have F0 := fr_kst _ F hps
  clear F
  have hsv := hσ.length
  k_with_none
  have X0 := X
  revert X; k_fill; intro X
  k_with "for!" => k_dflt (
    (rename Fr _ _ _ _ => lF')
    with_unfolding_all refine' For_invVF lF' ?k1 ?k2 ?_
    case k1 => exact rfl
    case k2 => exact rfl
    k_whole)
  k_with "pyIter ref!" => k_dflt (
    refine' for_list (l := sl) (its := sv.toArray) (k := ks) (σ := Unit) [Str.ofString "place", Str.ofString "at"] (fun _ => []) (fun i _ nx => SJ2 w d pl od (listOf #[] kp) ex tl (σs.take i) nx) () ?e1 ?e2 ?e3 ?e4 ?e5 ?e6 ?turn ?done
    case e4 => exact (show News h₀ L _ ((d, od) :: (pl, listOf #[] kp) :: ([] ++ (ex ++ tl))) from N)
    case e6 => exact ⟨od, [], kp, [], rfl, off_nil, hT, .nil⟩
    case e1 => rfl
    case e2 => (rintro i c' nx ⟨o', pv, kp', tl', rfl, _, _, _⟩; k_mem)
    case e3 => k_asm
    case e5 => exact no_mem
    case turn =>
      intro i c' v u nx I oI h tk hi' hv hJ hI F1 N1
      obtain ⟨o', pv, kp', tl', rfl, ho', hT', hP'⟩ := hJ
      rw [List.size_toArray] at hi'
      rw [List.getElem?_toArray] at hv
      obtain ⟨r, σ, rfl, hσi, hq⟩ := hσ.at hv
      have hpl := hP'.length
      rw [List.length_map, List.length_take] at hpl
      refine scan_turn (ex := (I, oI) :: ex) (tl := tl' ++ tl) (σ := σ) (r := r) B X0 T F1 (sj_in N1) rfl rfl (sub_app _ hc) hcd (hσi.mono sub_app) (hg σ (List.mem_of_getElem? hq)) hT' (sj_off1 hI hoff ho') (sj_off2 hI hoff2 ho') hdp lo (told_small hg i (by omega)) (by omega) (by omega) ?_
      intro h' tk' m' o'' tl'' x u1 u2 u3 F2 hm2 N2 ho2 hT2 hx
      refine (show LEnd _ _ _ _ _ _ _ from LEnd.intro F2 N2 (List.mem_cons_of_mem _ (List.mem_cons_of_mem _ (List.mem_append.mpr (.inr (.head _))))) (fun p hp => sj_sub p hp) (sj_offI hI ho2) ⟨(), ⟨o'', _, _, tl'' ++ tl', rfl, sj_out ho' ho2, ?_, ?_⟩, ⟨no_mem, fun z hz hz2 => ?_⟩⟩)
      · rw [take_snoc hq, toldOf_snoc, List.append_assoc]
        exact hT2
      · rw [take_snoc hq, List.map_append]
        exact (hP'.mono sub_app).append (.cons (List.mem_append.mpr (.inl hx)) .nil)
      · refine (hm2 z (not_name hz2 _ rfl) (not_name hz2 _ rfl)).trans ((if_neg hz).trans ?_)
        exact says_rest hz2 no_mem
    case done =>
      intro c' u nx h tk hJ F1 N1
      obtain ⟨o', pv, kp', tl', rfl, ho', hT', hP'⟩ := hJ
      rw [List.size_toArray, hsv, List.take_length] at hT' hP'
      exact RunsAt.use rfl (next _ _ _ _ _ _ _ F1 (fun z hz hz2 hz3 => (if_neg hz).trans ((says_rest (not_in2 hz2 hz3) no_mem).trans (kstB_eq hps fun _ => rfl))) N1 ho' hT' hP'))
  k_steps
end Mine

namespace Mine
theorem quietT5 : True := by
  w_top off
  trivial
open PySem PySem.W PyProof.Rows PySem.Spec PySem.Calls
set_option Elab.async false
set_option maxRecDepth 100000
set_option maxHeartbeats 1000000
noncomputable def dueVal (a : Int) : List (Int × Int) := if a = 0 then [(0, 1), (1, 0)] else [(0, 2), (2, 1), (1, 0)]
noncomputable def dueRow (p : Int) (D : Tab) (l : List Int) : Tab := l.foldl (fun D a => putT (p, a) (dueVal a) D) D
theorem dueRow_snoc {p : Int} {D : Tab} {l : List Int} {a : Int} : dueRow p D (l ++ [a]) = putT (p, a) (dueVal a) (dueRow p D l) := by simp [dueRow]
noncomputable def dueAll (l : List Int) (ps : List Int) : Tab := ps.foldl (fun D p => dueRow p D l) []
theorem dueAll_snoc {l ps : List Int} {p : Int} : dueAll l (ps ++ [p]) = dueRow p (dueAll l ps) l := by simp [dueAll]
theorem putT_len (k : Int × Int) (ps : List (Int × Int)) (D : Tab) : (putT k ps D).length ≤ D.length + 1 := by
  unfold putT
  split
  · rw [List.length_map]; exact Nat.le_succ _
  · rw [List.length_append]; exact Nat.le_refl _
theorem dueRow_len (p : Int) : ∀ (l : List Int) (D : Tab), (dueRow p D l).length ≤ D.length + l.length
  | [], D => Nat.le_refl _
  | a :: r, D => by
    have := dueRow_len p r (putT (p, a) (dueVal a) D)
    have h2 := putT_len (p, a) (dueVal a) D
    rw [List.length_cons]
    show (dueRow p (putT (p, a) (dueVal a) D) r).length ≤ _
    omega
theorem dueAll_len {l : List Int} (h : l.length ≤ 16) : ∀ (ps : List Int) (i : Nat), i ≤ ps.length → (dueAll l (ps.take i)).length ≤ i * 16 := by
  intro ps i
  induction i with
  | zero => exact fun _ => Nat.zero_le _
  | succ i ih =>
    intro hi
    have hq := List.getElem?_eq_getElem (l := ps) (i := i) (by omega)
    rw [take_snoc hq, dueAll_snoc]
    have := dueRow_len ps[i] l (dueAll l (ps.take i))
    have h2 := ih (by omega)
    omega
section
variable {h₀ h : Heap} {L : Addr} {x1 x2 x3 x4 x5 y : Addr × Obj} {tl : List (Addr × Obj)}
theorem front4 (N : News h₀ L h (x1 :: x2 :: x3 :: x4 :: y :: tl)) : News h₀ L h (y :: ([x1, x2, x3, x4] ++ tl)) :=
  reorder N (by (repeat' first | refine sub_a ?_ ?_ | refine sub_c ?_ ?_) <;> first | exact no_mem | kn_among | (intro q hq; kn_among))
theorem off4 (_ : News h₀ L h (x1 :: x2 :: x3 :: x4 :: y :: tl)) (h1 : AllLt x1.1 (y :: tl)) (h2 : AllLt x2.1 (y :: tl)) (h3 : AllLt x3.1 (y :: tl)) (h4 : AllLt x4.1 (y :: tl)) : TbOff [x1, x2, x3, x4] (y :: tl) := off_lt' h1 (off_lt' h2 (off_lt' h3 (off_lt' h4 off_nil)))
theorem front5 (N : News h₀ L h (x1 :: x2 :: x3 :: x4 :: x5 :: y :: tl)) : News h₀ L h (y :: ([x1, x2, x3, x4, x5] ++ tl)) :=
  reorder N (by (repeat' first | refine sub_a ?_ ?_ | refine sub_c ?_ ?_) <;> first | exact no_mem | kn_among | (intro q hq; kn_among))
theorem off5 (_ : News h₀ L h (x1 :: x2 :: x3 :: x4 :: x5 :: y :: tl)) (h1 : AllLt x1.1 (y :: tl)) (h2 : AllLt x2.1 (y :: tl)) (h3 : AllLt x3.1 (y :: tl)) (h4 : AllLt x4.1 (y :: tl)) (h5 : AllLt x5.1 (y :: tl)) : TbOff [x1, x2, x3, x4, x5] (y :: tl) := off_lt' h1 (off_lt' h2 (off_lt' h3 (off_lt' h4 (off_lt' h5 off_nil))))
end
theorem due_at_turn {w : World} {mean : ExcName → Option Value} {mg mb : Str → Option Value} {h₀ : Heap} {L fa : Addr} {c : Value} {m : Str → Option Value} {s : Shared} {Q : Flow → Shared → Prop} {E : Value → Shared → Prop}
    {ex tl : List (Addr × Obj)} {d : Addr} {od : Obj} {D : Tab} {p a : Int} {tp ta : Tok}
    (_ : Below callerA h₀ [] h₀) (X : (hd.heap_39 w.params).In h₀) (_ : Top hd.view_39 (looseW hd.view_39 []) mean mg mb h₀) (F : Fr h₀ L s.heap m) (N : News h₀ L s.heap ((d, od) :: (ex ++ tl)))
    (hm1 : m (Str.ofString "place") = some (.int p tp)) (hm2 : m (Str.ofString "at") = some (.int a ta)) (hm3 : m (Str.ofString "due") = some (.ref d))
    (hT : TabO rowP w tl od D) (hoff : ∀ p ∈ ex ++ tl, p.1 ≠ d) (hn : D.length ≤ 90000)
    (ret : ∀ h' tk' o' tl', Fr h₀ L h' m → News h₀ L h' ((d, o') :: (tl' ++ (ex ++ tl))) → TbOff tl' ((d, od) :: (ex ++ tl)) → TabO rowP w (tl' ++ tl) o' (putT (p, a) (dueVal a) D) → Q .next { s with heap := h', toks := tk' }) :
    wpAny (model rowP w) (lawA L fa c) (execs dueAtBody (lawEnv L fa c)) Q E s := by
  dsimp only [lawScope, dueAtBody, lawScopeS, dueAtBodyS, rowP, lawA, lawEnv]
  have hps : ∀ q ∈ [(Str.ofString "place", Value.int p tp), (Str.ofString "at", Value.int a ta), (Str.ofString "due", Value.ref d)], m q.1 = some q.2 := by
    intro q hq
    simp only [List.mem_cons, List.not_mem_nil, or_false] at hq
    rcases hq with rfl | rfl | rfl <;> assumption
  have F0 := fr_kst _ F hps
  clear F
  k_with_none
  revert X; k_fill; intro X
  k_with "set!" => k_dflt (
    rename (_ < _ ∧ AllLt _ (ex ++ tl)) => q1
    rename (_ < _ ∧ _ < _ ∧ AllLt _ (ex ++ tl)) => q2
    rename (_ < _ ∧ _ < _ ∧ _ < _ ∧ AllLt _ (ex ++ tl)) => q3
    rename (_ < _ ∧ _ < _ ∧ _ < _ ∧ _ < _ ∧ AllLt _ (ex ++ tl)) => q4
    with_reducible rename News _ _ _ _ => N9
    have hO := off4 N9 q4.2.2.2 q3.2.2 q2.2 q1
    have N9 := front4 N9
    refine' set_tab (tl := [_, _, _, _] ++ tl) (x := tp) (y := ta) (ps := [(0, 1), (1, 0)]) ?g1 N9 (off_head hO hoff) ?g3 (hT.mono ?g2) ?g4 ?g5 ?g6 ?g7 ?_
    case g1 => k_asm
    case g3 => exact sub_mid
    case g2 => exact sub_app
    case g4 => k_mem
    case g5 => k_units
    case g6 => exact ⟨_, [_, _], _, rfl, by k_mem, .cons (by k_mem) (.cons (by k_mem) .nil)⟩
    case g7 => omega
    intro h8 o8 F8 N8 hT8
    try dsimp only)
  k_with "set!" => k_dflt (
    rename (_ < _ ∧ AllLt _ (ex ++ tl)) => q1
    rename (_ < _ ∧ _ < _ ∧ AllLt _ (ex ++ tl)) => q2
    rename (_ < _ ∧ _ < _ ∧ _ < _ ∧ AllLt _ (ex ++ tl)) => q3
    rename (_ < _ ∧ _ < _ ∧ _ < _ ∧ _ < _ ∧ AllLt _ (ex ++ tl)) => q4
    rename (_ < _ ∧ _ < _ ∧ _ < _ ∧ _ < _ ∧ _ < _ ∧ AllLt _ (ex ++ tl)) => q5
    with_reducible rename News _ _ _ _ => N9
    have hO := off5 N9 q5.2.2.2.2 q4.2.2.2 q3.2.2 q2.2 q1
    have N9 := front5 N9
    refine' set_tab (tl := [_, _, _, _, _] ++ tl) (x := tp) (y := ta) (ps := [(0, 2), (2, 1), (1, 0)]) ?g1 N9 (off_head hO hoff) ?g3 (hT.mono ?g2) ?g4 ?g5 ?g6 ?g7 ?_
    case g1 => k_asm
    case g3 => exact sub_mid
    case g2 => exact sub_app
    case g4 => k_mem
    case g5 => k_units
    case g6 => exact ⟨_, [_, _, _], _, rfl, by k_mem, .cons (by k_mem) (.cons (by k_mem) (.cons (by k_mem) .nil))⟩
    case g7 => omega
    intro h8 o8 F8 N8 hT8
    try dsimp only)
  k_steps
  all_goals first
    | (refine ret _ _ _ _ (kst_fr _ F8 hps) N8 hO ?_; rw [show dueVal a = [(0, 1), (1, 0)] from if_pos (by assumption)]; exact hT8)
    | (refine ret _ _ _ _ (kst_fr _ F8 hps) N8 hO ?_; rw [show dueVal a = [(0, 2), (2, 1), (1, 0)] from if_neg (by assumption)]; exact hT8)
end Mine

namespace Mine
theorem quietT6 : True := by
  w_top off
  trivial
open PySem PySem.W PyProof.Rows PySem.Spec PySem.Calls
set_option Elab.async false
set_option maxRecDepth 100000
set_option maxHeartbeats 1000000
theorem at_of {l : List (Addr × Obj)} {d : Addr} (_ : ∀ p ∈ l, p.1 < d) : ∃ x, x = d := ⟨d, rfl⟩
theorem obj_of {prog : Program} {w : World} {o : Obj} (_ : o.IsDictOf (intKind prog w) []) : ∃ x, x = o := ⟨o, rfl⟩
theorem upto_get {n i : Nat} (h : i < n) : (upto n)[i]? = some ((0 : Int) + (i : Int)) := by simp [upto, h]
theorem due_place_turn {w : World} {mean : ExcName → Option Value} {mg mb : Str → Option Value} {h₀ : Heap} {L fa : Addr} {c : Value} {m : Str → Option Value} {s : Shared} {Q : Flow → Shared → Prop} {E : Value → Shared → Prop}
    {ex tl : List (Addr × Obj)} {d : Addr} {od oc : Obj} {D : Tab} {p side : Int} {tp ts : Tok}
    (B : Below callerA h₀ [] h₀) (X : (hd.heap_39 w.params).In h₀) (T : Top hd.view_39 (looseW hd.view_39 []) mean mg mb h₀) (F : Fr h₀ L s.heap m) (N : News h₀ L s.heap ((d, od) :: (ex ++ tl)))
    (hm1 : m (Str.ofString "place") = some (.int p tp)) (hm3 : m (Str.ofString "due") = some (.ref d)) (hc : (L + 1 + 1, oc) ∈ tl) (hcd : oc.data = Data.cell (some (.int side ts))) (hs1 : 1 ≤ side) (hs2 : side ≤ 4)
    (hT : TabO rowP w tl od D) (hoff : ∀ p ∈ ex ++ tl, p.1 ≠ d) (hn : D.length ≤ 80000)
    (ret : ∀ h' tk' m' o' tl', Fr h₀ L h' m' → (∀ z, z ≠ Str.ofString "at" → m' z = m z) → News h₀ L h' ((d, o') :: (tl' ++ (ex ++ tl))) → TbOff tl' ((d, od) :: (ex ++ tl)) → TabO rowP w (tl' ++ tl) o' (dueRow p D (upto (side * side).toNat)) → Q .next { s with heap := h', toks := tk' }) :
    wpAny (model rowP w) (lawA L fa c) (execs duePlaceBody (lawEnv L fa c)) Q E s := by
  refine wpAny_noRaise ?_
  dsimp only [lawScope, duePlaceBody, lawScopeS, duePlaceBodyS, rowP, lawA, lawEnv]
  have hps : ∀ q ∈ [(Str.ofString "place", Value.int p tp), (Str.ofString "due", Value.ref d)], m q.1 = some q.2 := by
    intro q hq
    simp only [List.mem_cons, List.not_mem_nil, or_false] at hq
    rcases hq with rfl | rfl <;> assumption
  have F0 := fr_kst _ F hps
  clear F
  k_with_none
  have X0 := X
  revert X; k_fill; intro X
  k_with "mul!" => k_dflt (refine side_mul hs1 hs2 ?_; intro lo9 hi9)
  k_with "for!" => k_dflt (
    (rename Fr _ _ _ _ => lF')
    with_unfolding_all refine' For_invVF lF' ?k1 ?k2 ?_
    case k1 => exact rfl
    case k2 => exact rfl
    k_whole)
  k_with "pyIter ref!" => k_dflt (
    refine' for_range (n := (side * side).toNat) (σ := Unit) [] (fun _ => []) (fun i _ nx => TJ w d od ex tl (dueRow p D ((upto (side * side).toNat).take i)) nx) () ?e1 ?e2 ?e3 ?e4 ?e5 ?e6 ?e7 ?e8 ?turn ?_
    case e1 => rfl
    case e2 => assumption
    case e3 => exact small_one (by omega) (by omega) (by omega) (by omega)
    case e4 => (rw [rangeSize_nat, Int.sub_zero])
    case e5 => k_asm
    case e6 => k_asm
    case e7 => exact no_mem
    case e8 => exact ⟨od, [], rfl, off_nil, hT⟩
    case turn =>
      intro i c' t u nx I oI h tk hi hJ hI F1 N1
      obtain ⟨o', tl', rfl, ho', hT'⟩ := hJ
      have hlen := dueRow_len p ((upto (side * side).toNat).take i) D
      have hlen2 : ((upto (side * side).toNat).take i).length ≤ 16 := by rw [List.length_take, upto_length]; omega
      refine due_at_turn (ex := (I, oI) :: ex) (tl := tl' ++ tl) (p := p) (a := 0 + (i : Int)) B X0 T F1 (tj_in N1) rfl rfl rfl hT' (tj_inOff hI hoff ho') (by omega) ?_
      intro h' tk' o'' tl'' F2 N2 ho2 hT2
      refine (show LEnd _ _ _ _ _ _ _ from LEnd.intro F2 N2 (List.mem_cons_of_mem _ (List.mem_append.mpr (.inr (.head _)))) (fun p hp => tj_sub p hp) (tj_offI hI ho2) ⟨(), ?_, ⟨no_mem, fun z hz _ => if_neg hz⟩⟩)
      rw [take_snoc (upto_get hi), dueRow_snoc]
      exact tj_out ho' ho2 hT2
    intro c' u nx h tk hJ F1 N1
    obtain ⟨o', tl', rfl, ho', hT'⟩ := hJ
    rw [List.take_of_length_le (by rw [upto_length]; exact Nat.le_refl _)] at hT'
    try dsimp only)
  k_steps
  refine ret _ _ _ _ _ F1 (fun z hz => ?_) N1 ho' hT'
  exact (if_neg hz).trans (show kstB m _ z = m z from kstB_eq hps fun _ => rfl)
theorem part6 {w : World} {mean : ExcName → Option Value} {mg mb : Str → Option Value} {h₀ : Heap} {L fa : Addr} {c : Value} {m : Str → Option Value} {s : Shared} {Q : Flow → Shared → Prop} {E : Value → Shared → Prop}
    {ex tl : List (Addr × Obj)} {oc : Obj} {many : Nat} {side : Int} {tm ts : Tok}
    (B : Below callerA h₀ [] h₀) (X : (hd.heap_39 w.params).In h₀) (T : Top hd.view_39 (looseW hd.view_39 []) mean mg mb h₀) (F : Fr h₀ L s.heap m) (N : News h₀ L s.heap (ex ++ tl))
    (hm1 : m (Str.ofString "many") = some (.int (many : Int) tm)) (hmy : many ≤ 5) (hc : (L + 1 + 1, oc) ∈ tl) (hcd : oc.data = Data.cell (some (.int side ts))) (hs1 : 1 ≤ side) (hs2 : side ≤ 4)
    (next : ∀ h' tk' m' e o' tl', Fr h₀ L h' m' → m' (Str.ofString "due") = some (.ref e) → (∀ z, z ≠ Str.ofString "due" → z ≠ Str.ofString "place" → z ≠ Str.ofString "at" → m' z = m z) → News h₀ L h' ((e, o') :: (tl' ++ (ex ++ tl))) → (∀ p ∈ tl' ++ (ex ++ tl), p.1 ≠ e) → TbOff tl' (ex ++ tl) →
      TabO rowP w (tl' ++ tl) o' (dueAll (upto (side * side).toNat) (upto many)) → (e == sysModules) = false →
      RunsAt w L fa c 8 Q { s with heap := h', toks := tk' }) :
    RunsAt w L fa c 6 Q s := by
  refine ⟨?_⟩
  dsimp only [lawScope, lawBody, lawScopeS, lawBodyS, rowP, lawA, lawEnv, List.drop]
  have hps : ∀ q ∈ [(Str.ofString "many", Value.int (many : Int) tm)], m q.1 = some q.2 := by
    intro q hq
    simp only [List.mem_cons, List.not_mem_nil, or_false] at hq
    rcases hq with rfl; assumption
  have F0 := fr_kst _ F hps
  clear F
  k_with_none
  have X0 := X
  revert X; k_fill; intro X
  k_with "for!" => k_dflt (
    (rename Fr _ _ _ _ => lF')
    with_unfolding_all refine' For_invVF lF' ?k1 ?k2 ?_
    case k1 => exact rfl
    case k2 => exact rfl
    k_whole)
  k_with "pyIter ref!" => k_dflt (
    rename Obj.IsDictOf (intKind _ _) _ [] => hi9
    rename (∀ p ∈ ex ++ tl, _ < _) => l9
    rename ((_ == sysModules) = false) => lo9
    rename IsRange _ _ _ _ _ _ _ _ => hr9
    rename News _ _ _ _ => N9
    obtain ⟨d9, rfl⟩ := at_of l9
    obtain ⟨o9, rfl⟩ := obj_of hi9
    have hoff : ∀ p ∈ ex ++ tl, p.1 ≠ d9 := fun p hp => Nat.ne_of_lt (l9 p hp)
    refine' for_range (n := many) (σ := Unit) [Str.ofString "at"] (fun _ => []) (fun i _ nx => TJ w d9 o9 ex tl (dueAll (upto (side * side).toNat) ((upto many).take i)) nx) () ?e1 hr9 ?e3 ?e4 ?e5 N9 ?e7 ?e8 ?turn ?done
    case e1 => rfl
    case e3 => exact small_one (by omega) (by omega) (by omega) (by omega)
    case e4 => exact (rangeSize_nat _ _).trans (by rw [Int.sub_zero]; rfl)
    case e5 => k_asm
    case e7 => exact no_mem
    case e8 => exact ⟨_, [], rfl, off_nil, .empty hi9⟩
    case turn =>
      intro i c' t u nx I oI h tk hi hJ hI F1 N1
      obtain ⟨o', tl', rfl, ho', hT'⟩ := hJ
      have hss : (side * side).toNat ≤ 16 := by
        have hs : side = 1 ∨ side = 2 ∨ side = 3 ∨ side = 4 := by omega
        rcases hs with rfl | rfl | rfl | rfl <;> decide
      have hlen := dueAll_len (l := upto (side * side).toNat) (by rw [upto_length]; exact hss) (upto many) i (by rw [upto_length]; omega)
      refine due_place_turn (ex := (I, oI) :: ex) (tl := tl' ++ tl) (p := 0 + (i : Int)) B X0 T F1 (tj_in N1) rfl rfl (sub_app _ hc) hcd hs1 hs2 hT' (tj_inOff hI hoff ho') (by omega) ?_
      intro h' tk' m' o'' tl'' F2 hm2 N2 ho2 hT2
      refine (show LEnd _ _ _ _ _ _ _ from LEnd.intro F2 N2 (List.mem_cons_of_mem _ (List.mem_append.mpr (.inr (.head _)))) (fun p hp => tj_sub p hp) (tj_offI hI ho2) ⟨(), ?_, ⟨no_mem, fun z hz hz2 => ?_⟩⟩)
      · rw [take_snoc (upto_get hi), dueAll_snoc]
        exact tj_out ho' ho2 hT2
      · refine (hm2 z (not_name hz2 _ rfl)).trans ((if_neg hz).trans ?_)
        exact says_rest hz2 no_mem
    case done =>
      intro c' u nx h tk hJ F1 N1
      obtain ⟨o', tl', rfl, ho', hT'⟩ := hJ
      rw [List.take_of_length_le (by rw [upto_length]; exact Nat.le_refl _)] at hT'
      refine RunsAt.use rfl (next _ _ _ _ _ _ F1 rfl (fun z hz hz2 hz3 => ?_) N1 (off_head ho' hoff) (fun p hp q hq => ho' p hp q (.tail _ hq)) hT' lo9)
      refine (if_neg hz2).trans ((says_rest (not_in1 hz3) no_mem).trans ((if_neg hz).trans (kstB_eq hps fun _ => rfl))))
  k_steps
end Mine

namespace Mine
theorem quietT7 : True := by
  w_top off
  trivial
open PySem PySem.W PyProof.Rows PySem.Spec PySem.Calls PyProof.Rows.LCg
set_option Elab.async false
set_option maxRecDepth 100000
set_option maxHeartbeats 2000000
section
variable {prog : Program} {w : World} {A : Around} {E : Value → Shared → Prop} {s : Shared} {h₀ : Heap} {L : Addr} {m : Str → Option Value} {env : Env}
theorem loop_pt {elt iter ct : Expr} {elts : List Expr} {x1} {tp : Pos} {scope : Scope} {pos : Pos} {it acc : Value} {env : Env} {R : Result → Shared → Prop} (I : Nat → Shared → Prop)
    (turn : ∀ n s, I n s → wpAny (model prog w) A (pyNext it) (fun r s₁ => match r with
      | none => R (.ok .next) s₁
      | some v => wpAny (model prog w) A (letOwnedTupleGo (.Tuple elts x1 tp) it v) (fun _ s₁' => wpAny (model prog w) A (assign (.Tuple elts x1 tp) env v) (fun _ s₂ =>
          wpAny (model prog w) A (isTrue ct env (eval ct env)) (fun ok s₃ =>
            if ok = true then wpAny (model prog w) A (eval elt env) (fun x s₄ =>
              wpAny (model prog w) A (call (.builtin "list.append") [acc, x]) (fun _ s₅ => ∃ m, m < n ∧ I m s₅) (notedBy (model prog w) A env fun e s' => R (.error e) s') s₄) (notedBy (model prog w) A env fun e s' => R (.error e) s') s₃
            else ∃ m, m < n ∧ I m s₃) (notedBy (model prog w) A env fun e s' => R (.error e) s') s₂)
          (notedBy (model prog w) A env fun e s' => R (.error e) s') s₁') (notedBy (model prog w) A env fun e s' => R (.error e) s') s₁) (notedBy (model prog w) A env fun e s' => R (.error e) s') s)
    (n : Nat) (h : I n s) : codeAny (model prog w) A (.compLoop (.ListComp elt [⟨.Tuple elts x1 tp, iter, [ct], 0⟩] scope pos) 0 it acc env) R s := by
  refine codeAny_loop rfl I (fun n s hI => ?_) n h
  show wpAny _ A ((compTurn (.ListComp elt [⟨.Tuple elts x1 tp, iter, [ct], 0⟩] scope pos) 0 it acc env).onRaise (fun x => do noteFrame x env; theTreesLotGoes x)) _ _ s
  refine wpAny_noted ?_
  rw [compTurn_list]
  refine wpAny_bind (wpAny_standAt (wpAny_bind (wpAny_mono (turn n s hI) (fun r s₁ h₁ => ?_) fun _ _ h' => h')))
  cases r with
  | none => exact wpAny_pure h₁
  | some v =>
    refine wpAny_bind (wpAny_mono h₁ (fun _ s₁' h₁' => ?_) fun _ _ h' => h')
    refine wpAny_bind (wpAny_mono h₁' (fun _ s₂ h₂ => wpAny_bind (wpAny_mono (wpAny_tests_one h₂) (fun ok s₃ h₃ => ?_) fun _ _ h' => h')) fun _ _ h' => h')
    cases ok with
    | false => exact wpAny_pure ⟨rfl, h₃⟩
    | true =>
      exact wpAny_bind (wpAny_bind (wpAny_mono h₃ (fun x s₄ h₄ => wpAny_bind (wpAny_mono h₄ (fun _ s₅ h₅ => wpAny_pure (wpAny_pure ⟨rfl, h₅⟩)) fun _ _ h' => h')) fun _ _ h' => h'))
theorem off1_of {D : Addr} : ∀ {l : List (Addr × Obj)}, (∀ p ∈ l, p.1 ≠ D) → LCg.Off1 D l
  | [], _ => trivial
  | _ :: _, h => ⟨h _ (.head _), off1_of fun p hp => h p (.tail _ hp)⟩
noncomputable def Off4 (e it C D : Addr) (l : List (Addr × Obj)) : Prop := ∀ p ∈ l, p.1 ≠ e ∧ p.1 ≠ it ∧ p.1 ≠ C ∧ p.1 ≠ D
noncomputable def EnEnd (h₀ : Heap) (L : Addr) (m : Str → Option Value) (s₁ : Shared) (e it C D : Addr) (oe oi oC oD : Obj) (rest : List (Addr × Obj) → Prop) (s₂ : Shared) : Prop :=
  ∃ h' tk nw', s₂ = { s₁ with heap := h', toks := tk } ∧ Fr h₀ L h' m ∧ News h₀ L h' ((e, oe) :: (it, oi) :: (C, oC) :: (D, oD) :: nw') ∧ Off4 e it C D nw' ∧ rest nw'
/-- the turn of a comprehension over enumerate -/
noncomputable def EnTurn (prog : Program) (w : World) (A : Around) (h₀ : Heap) (L : Addr) (m : Str → Option Value) (env : Env) (ct elt : Expr) (xa xb : Str) (scope : Scope) (cl : List (Str × Addr)) (s : Shared) (its : Array Value) (J : Nat → List Value → List (Addr × Obj) → Prop) : Prop :=
  ∀ i ys nw v t e it oe oi C oC D m₂ h tk (E' : Value → Shared → Prop), its[i]? = some v → J i ys nw → NsObj oC m₂ → m₂ xa = some (.int (i : Int) t) → m₂ xb = some v → Fr h₀ L h m →
    News h₀ L h ((e, oe) :: (it, oi) :: (C, oC) :: (D, lst ys) :: nw) → Off4 e it C D nw → ((@Ne Nat e it) ∧ (@Ne Nat e C) ∧ (@Ne Nat e D) ∧ (@Ne Nat it C) ∧ (@Ne Nat it D) ∧ (@Ne Nat C D)) →
    wpAny (model prog w) A (isTrue ct (compEnvC scope cl C env) (eval ct (compEnvC scope cl C env))) (fun ok s' => if ok = true then
      wpAny (model prog w) A (eval elt (compEnvC scope cl C env)) (fun y s'' => EnEnd h₀ L m { s with heap := h, toks := tk } e it C D oe oi oC (lst ys) (J (i + 1) (ys ++ [y])) s'') E' s'
      else EnEnd h₀ L m { s with heap := h, toks := tk } e it C D oe oi oC (lst ys) (J (i + 1) ys) s') E' { s with heap := h, toks := tk }
theorem block_E {ct elt iter : Expr} {xa xb : Str} {pa pb tp : Pos} {kk} {scope : Scope} {cl : List (Str × Addr)} {pos : Pos} {s₂ : Shared} {e it ax : Addr} {its : Array Value} {k : Nat} {news : List (Addr × Obj)} {J : Nat → List Value → List (Addr × Obj) → Prop}
    {RR : Value → Addr → Result → Shared → Prop}
    (hh : A.handled = none) (hei : e ≠ it) (hle : ax ≠ e) (hli : ax ≠ it) (hsz : its.size ≤ sizeLine) (hcell : ∀ y ∈ scope.names, y.2 ≠ .cell) (hkind : scope.kind = .function) (hxa : scope.names.lookup xa = some .local) (hxb : scope.names.lookup xb = some .local) (hxx : xa ≠ xb)
    (hst : (∃ old, IsEnum s₂.heap e it (0 : Nat) old) ∧ s₂.heap.IsListIter it ax 0 ∧ s₂.heap.IsList ax its)
    (F : Fr h₀ L s₂.heap m) (N : News h₀ L s₂.heap news) (hLe : L ≠ e) (hLi : L ≠ it) (he₀ : h₀.get? e = none) (hi₀ : h₀.get? it = none) (off : ∀ p ∈ news, p.1 ≠ e ∧ p.1 ≠ it)
    (hax : ∀ i ys nw, J i ys nw → (ax, listOf its k) ∈ nw) (h0 : J 0 [] news) (turn : EnTurn prog w A h₀ L m env ct elt xa xb scope cl s₂ its J)
    (hRR : ∀ D C h tk m' ys news', Fr h₀ L h m → News h₀ L h ((D, lst ys) :: news') → Off1 D news' → h.Ns C m' → h₀.get? C = none → h₀.get? D = none → C ≠ L → D ≠ L → C ≠ D → (∀ p ∈ news', p.1 ≠ C) → J its.size ys news' → RR (.ref D) C (.ok .next) { s₂ with heap := h, toks := tk }) :
    wpAny (model prog w) A (newList []) (fun acc s₃ => wpAny (model prog w) A (newFunctionEnv scope env.globals cl [] env.qual none .none (some env)) (fun cenv s₄ =>
      codeAny (model prog w) A (.compStart (.ListComp elt [⟨.Tuple [.Name xa pa, .Name xb pb] kk tp, iter, [ct], 0⟩] scope pos) 0 (.ref e) acc { cenv with scope := relabel scope env }) (RR acc cenv.locals) s₄) E s₃) E s₂ := by
  refine wpAny_newObj_type (wpAny_newFunctionEnv hcell (by intro y hy; simp at hy) (fun h₁ hns₁ hsb₁ => ?_) hkind)
  dsimp only at hns₁ hsb₁ ⊢
  have W := (WalksT.enumerate (prog := prog) (w := w) hh e it ax hei hle hli its).toU
  generalize hH2 : s₂.heap.push { cls := .type "list", dict := none, data := .seq ([] : List Value).toArray } = H2 at hns₁ hsb₁ ⊢
  have hC : H2.objs.size = s₂.heap.objs.size + 1 := by rw [← hH2, Heap.size_push]
  have hDC : s₂.heap.objs.size ≠ H2.objs.size := by rw [hC]; exact Nat.ne_of_lt (Nat.lt_succ_self _)
  have below : ∀ b, b < s₂.heap.objs.size → b ≠ H2.objs.size ∧ b ≠ s₂.heap.objs.size := fun b hb => ⟨by rw [hC]; exact Nat.ne_of_lt (Nat.lt_succ_of_lt hb), Nat.ne_of_lt hb⟩
  have hfp : ∀ b ∈ [e, it, ax], b < s₂.heap.objs.size := by
    intro b hb
    obtain ⟨⟨old, x1⟩, ⟨o2, x2, _⟩, ⟨o3, x3, _⟩⟩ := hst
    simp only [List.mem_cons, List.not_mem_nil, or_false] at hb
    rcases hb with rfl | rfl | rfl
    · exact Heap.lt_size x1
    · exact Heap.lt_size x2
    · exact Heap.lt_size x3
  have hDf : s₂.heap.objs.size ∉ [e, it, ax] := fun hm => Nat.lt_irrefl _ (hfp _ hm)
  have hCf : H2.objs.size ∉ [e, it, ax] := fun hm => by have := hfp _ hm; rw [hC] at this; exact Nat.lt_irrefl _ (Nat.lt_of_succ_lt this)
  have old : ∀ b o, s₂.heap.get? b = some o → h₁.get? b = some o := fun b o e => hsb₁.extBut b o (below b (Heap.lt_size e)).1 (Heap.get?_push_of_some _ (hH2 ▸ Heap.get?_push_of_some _ e))
  have hacc : h₁.get? s₂.heap.objs.size = some (lst []) := hsb₁.extBut _ _ hDC (Heap.get?_push_of_some _ (hH2 ▸ Heap.get?_push_size _ rfl))
  have hst₁ := W.frame 0 _ _ hst fun b _ o e => old b o e
  have fresh : ∀ a, s₂.heap.objs.size ≤ a → s₂.heap.get? a = none := fun a ha => by
    cases e : s₂.heap.get? a with
    | none => rfl
    | some o' => exact absurd (Heap.lt_size e) (Nat.not_lt.mpr ha)
  have fresh₀ : ∀ a, s₂.heap.objs.size ≤ a → h₀.get? a = none := fun a ha => by
    cases e : h₀.get? a with
    | none => rfl
    | some o' => have := F.keep a o' e; rw [fresh a ha] at this; cases this
  have hD₀ : h₀.get? s₂.heap.objs.size = none := fresh₀ _ (Nat.le_refl _)
  have hC₀ : h₀.get? H2.objs.size = none := fresh₀ _ (by rw [hC]; exact Nat.le_succ _)
  have hLlt : L < s₂.heap.objs.size := F.ns.lt
  have hDL : s₂.heap.objs.size ≠ L := Ne.symm (below L hLlt).2
  have hCL : H2.objs.size ≠ L := Ne.symm (below L hLlt).1
  have hele := below e (hfp e (by simp))
  have hile := below it (hfp it (by simp))
  have off₀ : Off4 e it H2.objs.size s₂.heap.objs.size news := fun p hp => ⟨(off p hp).1, (off p hp).2, (below _ (Heap.lt_size (N p hp).1)).1, (below _ (Heap.lt_size (N p hp).1)).2⟩
  have frB : ∀ {h h' : Heap}, Fr h₀ L h m → (∀ b o, b ∉ [e, it] → h.get? b = some o → h'.get? b = some o) → Fr h₀ L h' m := fun F' hk =>
    ⟨F'.ns.at' fun o x => hk L o (by simp [hLe, hLi]) x, fun b o x => hk b o (fun hm => by
      simp only [List.mem_cons, List.not_mem_nil, or_false] at hm
      rcases hm with rfl | rfl
      · rw [he₀] at x; cases x
      · rw [hi₀] at x; cases x) (F'.keep b o x), F'.above⟩
  have nwB : ∀ {h h' : Heap} {l : List (Addr × Obj)}, News h₀ L h l → (∀ b o, b ∉ [e, it] → h.get? b = some o → h'.get? b = some o) → (∀ p ∈ l, p.1 ≠ e ∧ p.1 ≠ it) → News h₀ L h' l := fun N' hk ho p hp =>
    ⟨hk _ _ (by simp [ho p hp]) (N' p hp).1, (N' p hp).2⟩
  have loop : ∀ s₃ : Shared, s₃ = { s₂ with heap := h₁, toks := s₂.toks + ([] : List (Str × Value)).length } →
      codeAny (model prog w) A (.compLoop (.ListComp elt [⟨.Tuple [.Name xa pa, .Name xb pb] kk tp, iter, [ct], 0⟩] scope pos) 0 (.ref e) (.ref s₂.heap.objs.size) (compEnvC scope cl H2.objs.size env))
        (RR (.ref s₂.heap.objs.size) H2.objs.size) s₃ := by
    rintro s₃ rfl
    refine loop_pt
      (fun q s' => ∃ h' tk i ys m' news', s' = { s₂ with heap := h', toks := tk } ∧ i ≤ its.size ∧ q = its.size + 1 - i ∧ ys.length ≤ i ∧ ((∃ old, IsEnum h' e it (i : Nat) old) ∧ h'.IsListIter it ax i ∧ h'.IsList ax its) ∧ Fr h₀ L h' m ∧ h'.Ns H2.objs.size m' ∧ News h₀ L h' ((s₂.heap.objs.size, lst ys) :: news') ∧
        Off4 e it H2.objs.size s₂.heap.objs.size news' ∧ J i ys news') ?_ (its.size + 1)
      ⟨h₁, _, 0, [], _, news, rfl, Nat.zero_le _, rfl, Nat.le_refl _, hst₁, F.keeps old, hns₁, fun p hp => ?_, off₀, h0⟩
    · rintro q s' ⟨h', tk, i, ys, m', news', rfl, hi, rfl, hyl, hst', F', hn', N', off', hJ⟩
      have offD : ∀ p ∈ (s₂.heap.objs.size, lst ys) :: news', p.1 ≠ e ∧ p.1 ≠ it := fun p hp => by
        rcases List.mem_cons.mp hp with rfl | hp
        · exact ⟨Ne.symm hele.2, Ne.symm hile.2⟩
        · exact ⟨(off' p hp).1, (off' p hp).2.1⟩
      by_cases hlt : i < its.size
      · refine W.item i _ _ _ hlt hst' fun T vals h₂ tk₂ hPv hT hMid hk₂ => ?_
        obtain ⟨t, v, hv, rfl⟩ := hPv
        refine W.go _ _ _ i T _ _ _ hMid fun h₅ hst₅ hk₅ => ?_
        have hT₅ : IsTup h₅ T #[.int (i : Int) t, v] := by
          obtain ⟨o, x1, x2, n, x3⟩ := hT
          exact ⟨o, hk₅ T o (W.apart _ _ _ hMid) x1, x2, n, x3⟩
        have hk₂₅ : ∀ b o, b ∉ [e, it] → h'.get? b = some o → h₅.get? b = some o := fun b o hb x => hk₅ b o hb (hk₂ b o hb x)
        have N₅ := nwB N' hk₂₅ offD
        have F₅ := frB F' hk₂₅
        have hn₅ : h₅.Ns H2.objs.size m' := hn'.at' fun o x => hk₂₅ _ o (by simp [Ne.symm hele.1, Ne.symm hile.1]) x
        refine assign_Tuple_tuple hh hT₅ rfl rfl fun h₆ he₆ => ?_
        have he' : ∀ b o, h₅.get? b = some o → h₆.get? b = some o := fun b o x => he₆ b o (Nat.ne_of_lt (Heap.lt_size x)) x
        refine assignInOrder_cons (wpAny_assign_Name (wpAny_storeName_local (lookup_relabel_local hxa) (hn₅.at' fun o x => he' _ o x) (fun h₇ hn₇ hs₇ => ?_) (by simp [compEnvC, relabel, hkind])))
        refine assignInOrder_cons (wpAny_assign_Name (wpAny_storeName_local (lookup_relabel_local hxb) hn₇ (fun h₃ hn₃ hs₃ => ?_) (by simp [compEnvC, relabel, hkind])))
        refine assignInOrder_nil ?_
        have old3 : ∀ b o, b ≠ H2.objs.size → h₅.get? b = some o → h₃.get? b = some o := fun b o hb x => hs₃.extBut b o hb (hs₇.extBut b o hb (he' b o x))
        have hst₃ := W.frame (i + 1) _ _ hst₅ fun b hb o x => old3 b o (fun q => hCf (by rw [← q]; exact hb)) x
        obtain ⟨⟨ol, heE⟩, ⟨oi, heI, hiI⟩, hlI⟩ := hst₃
        obtain ⟨oC, heC, hoC⟩ := ns_obj hn₃
        have F₃ : Fr h₀ L h₃ m := ((F₅.keeps he').change hs₇ hCL hC₀).change hs₃ hCL hC₀
        have N₃ : News h₀ L h₃ ((e, _) :: (it, oi) :: (H2.objs.size, oC) :: (s₂.heap.objs.size, lst ys) :: news') := fun p hp => by
          rcases List.mem_cons.mp hp with rfl | hp
          · exact ⟨heE, Ne.symm hLe, he₀⟩
          · rcases List.mem_cons.mp hp with rfl | hp
            · exact ⟨heI, Ne.symm hLi, hi₀⟩
            · rcases List.mem_cons.mp hp with rfl | hp
              · exact ⟨heC, hCL, hC₀⟩
              · have z := N₅ p hp
                refine ⟨old3 _ _ ?_ z.1, z.2⟩
                rcases List.mem_cons.mp hp with rfl | hp
                · exact hDC
                · exact (off' p hp).2.2.1
        refine wpAny_mono (turn i ys news' v t e it _ oi H2.objs.size oC s₂.heap.objs.size _ h₃ _ _ hv hJ hoC (by simp [hxx]) (by simp) F₃ N₃ off' ⟨hei, hele.1, hele.2, hile.1, hile.2, Ne.symm hDC⟩) (fun ok s₄ h₄ => ?_) fun _ _ e => e
        have fin : ∀ {h₄ : Heap} {nw₄ : List (Addr × Obj)} {zs : List Value}, News h₀ L h₄ ((e, _) :: (it, oi) :: (H2.objs.size, oC) :: (s₂.heap.objs.size, lst ys) :: nw₄) → J (i + 1) zs nw₄ →
            (∃ old, IsEnum h₄ e it ((i + 1 : Nat) : Int) old) ∧ h₄.IsListIter it ax (i + 1) ∧ h₄.IsList ax its := fun N₄ hJ₄ =>
          ⟨⟨ol, (N₄ _ (.head _)).1⟩, ⟨oi, (N₄ _ (.tail _ (.head _))).1, hiI⟩, ⟨_, (N₄ _ (.tail _ (.tail _ (.tail _ (.tail _ (hax _ _ _ hJ₄)))))).1, rfl, _, rfl⟩⟩
        cases ok with
        | true =>
          simp only [if_true] at h₄ ⊢
          refine wpAny_mono h₄ (fun y s₅ h₅ => ?_) fun _ _ e => e
          obtain ⟨h₄, tk₄, news₄, rfl, F₄, N₄, off₄, hJ₄⟩ := h₅
          have hst₄ := fin N₄ hJ₄
          have zC := (N₄ (H2.objs.size, oC) (.tail _ (.tail _ (.head _)))).1
          have zD := (N₄ (s₂.heap.objs.size, lst ys) (.tail _ (.tail _ (.tail _ (.head _))))).1
          have N₄' : News h₀ L h₄ news₄ := fun p hp => N₄ p (.tail _ (.tail _ (.tail _ (.tail _ hp))))
          refine append_at (hsz := by show ys.toArray.size ≤ sizeLine; rw [List.size_toArray]; exact Nat.le_trans (Nat.le_trans hyl hi) hsz) zD fun h₅ hs₅ hD₅ => ?_
          refine ⟨its.size + 1 - (i + 1), by omega, h₅, tk₄, i + 1, ys ++ [y], _, news₄, rfl, hlt, rfl, by rw [List.length_append, List.length_singleton]; exact Nat.succ_le_succ hyl, W.frame (i + 1) _ _ hst₄ fun b hb o e => hs₅.extBut b o (fun q => hDf (q ▸ hb)) e, F₄.change hs₅ hDL hD₀,
            (hoC.ns zC).sameBut hs₅ (Ne.symm hDC), fun p hp => ?_, off₄, hJ₄⟩
          rcases List.mem_cons.mp hp with rfl | hp
          · exact ⟨hD₅.trans (congrArg some (lst_snoc ys y)), hDL, hD₀⟩
          · exact ⟨hs₅.extBut _ _ (off₄ p hp).2.2.2 (N₄' p hp).1, (N₄' p hp).2⟩
        | false =>
          simp only [Bool.false_eq_true, if_false] at h₄ ⊢
          obtain ⟨h₄, tk₄, news₄, rfl, F₄, N₄, off₄, hJ₄⟩ := h₄
          have zC := (N₄ (H2.objs.size, oC) (.tail _ (.tail _ (.head _)))).1
          refine ⟨its.size + 1 - (i + 1), by omega, h₄, tk₄, i + 1, ys, _, news₄, rfl, hlt, rfl, Nat.le_succ_of_le hyl, fin N₄ hJ₄, F₄, hoC.ns zC, fun p hp => N₄ p (.tail _ (.tail _ (.tail _ hp))), off₄, hJ₄⟩
      · obtain rfl : i = its.size := Nat.le_antisymm hi (Nat.not_lt.mp hlt)
        refine W.done _ _ _ hst' fun h₂ tk₂ hk₂ => ?_
        exact hRR _ _ h₂ tk₂ _ ys news' (frB F' hk₂) (nwB N' hk₂ offD) (off1_of fun p hp => (off' p hp).2.2.2) (hn'.at' fun o x => hk₂ _ o (by simp [Ne.symm hele.1, Ne.symm hile.1]) x) hC₀ hD₀ hCL hDL (Ne.symm hDC) (fun p hp => (off' p hp).2.2.1) hJ
    · rcases List.mem_cons.mp hp with rfl | hp
      · exact ⟨hacc, hDL, hD₀⟩
      · exact ⟨old _ _ (N p hp).1, (N p hp).2⟩
  exact codeAny_compStart_list (loop _ rfl) (W.self 0 _ _ _ hst₁ (loop _ rfl))
noncomputable def EnSrc (prog : Program) (w : World) (A : Around) (h₀ : Heap) (L : Addr) (m : Str → Option Value) (env : Env) (ct elt : Expr) (xa xb : Str) (scope : Scope) (cl : List (Str × Addr)) (Fin : Shared → List Value → List (Addr × Obj) → Prop) (xv : Value) (s₁ : Shared) : Prop :=
  ∃ e it ax its k news J, xv = .ref e ∧ A.handled = none ∧ e ≠ it ∧ ax ≠ e ∧ ax ≠ it ∧ Array.size its ≤ sizeLine ∧ IsEnum s₁.heap e it (0 : Nat) .none ∧ s₁.heap.IsListIter it ax 0 ∧ Fr h₀ L s₁.heap m ∧ News h₀ L s₁.heap news ∧ L ≠ e ∧ L ≠ it ∧ h₀.get? e = none ∧ h₀.get? it = none ∧
    (∀ p ∈ news, p.1 ≠ e ∧ p.1 ≠ it) ∧ (∀ i ys nw, J i ys nw → (ax, listOf its k) ∈ nw) ∧ J 0 [] news ∧ EnTurn prog w A h₀ L m env ct elt xa xb scope cl s₁ its J ∧ ∀ ys nw, J its.size ys nw → Fin s₁ ys nw
theorem en_call {ct elt : Expr} {xa xb : Str} {scope : Scope} {cl : List (Str × Addr)} {Fin : Shared → List Value → List (Addr × Obj) → Prop} {ax : Addr} {its : Array Value} {k : Nat} {news : List (Addr × Obj)} (J : Nat → List Value → List (Addr × Obj) → Prop)
    (hh : A.handled = none) (F : Fr h₀ L s.heap m) (N : News h₀ L s.heap news) (hsz : its.size ≤ sizeLine) (hax : ∀ i ys nw, J i ys nw → (ax, listOf its k) ∈ nw) (h0 : J 0 [] news)
    (turn : ∀ g, EnTurn prog w A h₀ L m env ct elt xa xb scope cl { s with heap := g } its J) (fin : ∀ g ys nw, J its.size ys nw → Fin { s with heap := g } ys nw) :
    wpAny (model prog w) A (call (.type "enumerate") [.ref ax]) (EnSrc prog w A h₀ L m env ct elt xa xb scope cl Fin) E s := by
  have hax₀ := N _ (hax _ _ _ h0)
  have hl : s.heap.IsList ax its := ⟨_, hax₀.1, rfl, _, rfl⟩
  have hlt : ax < s.heap.objs.size := Heap.lt_size hax₀.1
  have fresh : ∀ a, s.heap.objs.size ≤ a → h₀.get? a = none := fun a ha => by
    cases e : h₀.get? a with
    | none => rfl
    | some o' => exact absurd (Heap.lt_size (F.keep a o' e)) (Nat.not_lt.mpr ha)
  have hLlt : L < s.heap.objs.size := F.ns.lt
  refine call_enumerate_list hl fun h' hE hI hsz' hk => ?_
  have up : ∀ {a : Nat}, a < s.heap.objs.size → a ≠ s.heap.objs.size + 1 := fun h => Nat.ne_of_lt (Nat.lt_succ_of_lt h)
  exact ⟨_, _, ax, its, k, news, J, rfl, hh, Nat.succ_ne_self _, up hlt, Nat.ne_of_lt hlt, hsz, hE, hI, F.keeps hk, N.grown hk, up hLlt, Nat.ne_of_lt hLlt, fresh _ (Nat.le_succ _), fresh _ (Nat.le_refl _),
    fun p hp => ⟨up (Heap.lt_size (N p hp).1), Nat.ne_of_lt (Heap.lt_size (N p hp).1)⟩, hax, h0, turn _, fin _⟩
theorem Assign_ListComp_E {ct elt iter : Expr} {xa xb y : Str} {pa pb tp py : Pos} {kk} {scope : Scope} {cl : List (Str × Addr)} {pos spos : Pos} {Q : Flow → Shared → Prop} (F₀ : Fr h₀ L s.heap m) (hLe : env.locals = L)
    (hsw : swapsWith (.ListComp elt [⟨.Tuple [.Name xa pa, .Name xb pb] kk tp, iter, [ct], 0⟩] scope pos) (some (.Name y py)) spos.line env = pure true)
    (hclos : closureFor scope env = pure cl) (hcell : ∀ z ∈ scope.names, z.2 ≠ .cell) (hkind : scope.kind = .function)
    (hnames : ∀ z ∈ scope.names, z.2 = .local → scope.names.lookup z.1 = some .local) (hxa : scope.names.lookup xa = some .local) (hxb : scope.names.lookup xb = some .local) (hxx : xa ≠ xb)
    (hy : env.kindOf y = some .local) (hp : (env.scope.kind == .class || (env.scope.kind == .module && env.locals != env.globals)) = false)
    (h : wpAny (model prog w) A (eval iter env) (EnSrc prog w A h₀ L m env ct elt xa xb scope cl (fun s₂ => FinA h₀ L m s₂ y Q)) E s)
    (hs : ∀ x, foldedSetIterable iter env x = pure x := by intro _; rfl) :
    wpAny (model prog w) A (exec (.Assign [.Name y py] (.ListComp elt [⟨.Tuple [.Name xa pa, .Name xb pb] kk tp, iter, [ct], 0⟩] scope pos) spos) env) Q E s := by
  subst hLe
  rw [exec_Assign_Name_used _ _ _ _ hsw]
  refine wpAny_bind (wpAny_standAt (wpAny_bind ?_))
  show wpAny _ A (do let _ ← comprehension (.ListComp elt [⟨.Tuple [.Name xa pa, .Name xb pb] kk tp, iter, [ct], 0⟩] scope pos) scope env _ (newList []) false (eval iter env) (some (assign (.Name y py) env))) _ _ s
  refine wpAny_bind (wpAny_mono (wpAny_comprehension_free (use := some (assign (.Name y py) env)) (Q := fun _ s' => Q .next s') rfl hs hclos hkind hnames
    (wpAny_mono h (fun xv s₁ h₁ => ?_) fun _ _ e => e)) (fun _ s' hq => wpAny_pure (wpAny_pure hq)) fun _ _ e => e)
  obtain ⟨e, it, ax, its, k, news, J, rfl, hh, hei, hle, hli, hsz, hE, hI, F, N, hLe, hLi, he₀, hi₀, off, hax, h0, turn, fin₀⟩ := h₁
  refine wpAny_pyIter_enum hE ?_
  refine block_E hh hei hle hli hsz hcell hkind hxa hxb hxx ⟨⟨_, hE⟩, hI, ⟨_, (N _ (hax _ _ _ h0)).1, rfl, _, rfl⟩⟩ F N hLe hLi he₀ hi₀ off hax h0 turn ?_
  intro D C h' tk m' ys news' F' N' o1 hn hC₀ hD₀ hCL hDL hCD offC hJ
  have fin := fin₀ ys news' hJ
  show wpAny _ A (assign (.Name y py) env (.ref D)) _ _ _
  refine wpAny_assign_Name (wpAny_storeName_local hy F'.ns (fun h₂ hn₂ hs₂ => ?_) hp)
  have hL₀ : h₀.get? env.locals = none := Heap.get?_none_of_le F'.above
  have F₂ : Fr h₀ env.locals h₂ (fun z => if z = y then some (.ref D) else m z) := ⟨hn₂, fun b o e => hs₂.extBut b o (fun q => by rw [q, hL₀] at e; cases e) (F'.keep b o e), F'.above⟩
  refine ⟨m', hn.sameBut hs₂ hCL, fun h'' hs'' => fin D h'' _ (F₂.change hs'' hCL hC₀) (fun p hp => ?_) o1⟩
  have z : h₂.get? p.1 = some p.2 := hs₂.extBut _ _ (N' p hp).2.1 (N' p hp).1
  refine ⟨hs''.extBut _ _ ?_ z, (N' p hp).2⟩
  rcases List.mem_cons.mp hp with rfl | hp
  · exact Ne.symm hCD
  · exact offC p hp
end
end Mine

namespace Mine
theorem quietD3 : True := by
  w_top off
  trivial
open PySem PySem.W PyProof.Rows PySem.Spec PySem.Calls
set_option Elab.async false
set_option maxRecDepth 100000
set_option maxHeartbeats 2000000
noncomputable abbrev Ps := Bool × Int × Int × Int
noncomputable def pd (q : Ps) : PyData := .tuple [.bool q.1, .int q.2.1, .int q.2.2.1, .int q.2.2.2]
theorem pd_lay (q : Ps) : (pd q).canLay0 = true := rfl
theorem pd_shaped (q : Ps) : SeqAt.shaped (pd q) = true := rfl
theorem pds_lay : ∀ qs : List Ps, PyData.canLayAll0 (qs.map pd) = true
  | [] => rfl
  | q :: r => by
    show (PyData.canLay0 (pd q) && PyData.canLayAll0 (r.map pd)) = true
    rw [pd_lay, pds_lay r]; rfl
theorem pds_depth : ∀ qs : List Ps, PyData.depthAll (qs.map pd) ≤ 4
  | [] => by decide
  | q :: r => by
    have h := pds_depth r
    show max _ _ ≤ 4
    have h2 : (pd q).depth ≤ 4 := by simp [pd, PyData.depth, PyData.depthAll]
    omega
theorem pds_shaped (qs : List Ps) : SeqAt.shaped (.list (qs.map pd)) = true := by
  have h := pds_depth qs
  unfold SeqAt.shaped
  rw [Bool.and_eq_true]
  refine ⟨pds_lay qs, decide_eq_true ?_⟩
  show PyData.depthAll (qs.map pd) + 1 ≤ 64
  omega
section
variable {h₀ h : Heap} {L : Addr} {news : List (Addr × Obj)}
theorem reads_tup4 {a : Addr} {b : Bool} {p q r : Int} {t u v : Tok} (N : News h₀ L h news) (hm : (a, tup4 b p q r t u v) ∈ news) : Reads h (.ref a) (pd (b, p, q, r)) [] :=
  .tuple (N.get hm) rfl rfl (.cons (.bool _) (.cons (.int _ _) (.cons (.int _ _) (.cons (.int _ _) .nil))))
theorem reads_pass {pl : List (Addr × Obj)} (N : News h₀ L h news) (hs : ∀ p ∈ pl, p ∈ news) : ∀ {vs : List Value} {qs : List Ps}, ArePass pl vs qs → ReadsAll h vs (qs.map pd) [] := by
  intro vs qs R
  induction R with
  | nil => exact .nil
  | cons k _ ih =>
    obtain ⟨_, _, _, _, e, hm⟩ := k
    rw [e]
    exact .cons (reads_tup4 N (hs _ hm)) ih
theorem reads_passes {pl : List (Addr × Obj)} {l : Addr} {vs : List Value} {n : Nat} {qs : List Ps} (N : News h₀ L h news) (hs : ∀ p ∈ pl, p ∈ news) (hl : (l, listOf vs.toArray n) ∈ news) (hq : ArePass pl vs qs) : Reads h (.ref l) (.list (qs.map pd)) [l] :=
  .list (N.get hl) rfl rfl (reads_pass N hs hq)
end
theorem ArePass.at {news : List (Addr × Obj)} {v : Value} {vs : List Value} {qs : List Ps} (h : ArePass news vs qs) {i : Nat} (hi : vs[i]? = some v) : ∃ a b p q r t u z, v = .ref a ∧ (a, tup4 b p q r t u z) ∈ news ∧ qs[i]? = some (b, p, q, r) := by
  obtain ⟨⟨b, p, q, r⟩, ⟨a, t, u, z, e, hm⟩, hq⟩ := pr_at h hi
  exact ⟨a, b, p, q, r, t, u, z, e, hm, hq⟩
theorem ArePass.take {news : List (Addr × Obj)} {vs : List Value} {qs : List Ps} (h : ArePass news vs qs) (i : Nat) : ArePass news (vs.take i) (qs.take i) := pr_take h i
theorem pick_upto (vs : List Value) {i : Nat} (h : i ≤ vs.length) : (slicePick vs.toArray none (some (i : Int)) none).toList = vs.take i := by
  rw [kms_pick_eq]
  simp only [kms_pick, kms_lo, kms_hi]
  have h1 : ¬ ((i : Int) < 0) := by omega
  simp [h1, Nat.min_eq_left h]
noncomputable def memQ (q : Ps) (l : List Ps) : Bool := (l.map pd).any fun y => PyData.eqv y (pd q)
noncomputable def eqQ (q r : Ps) : Bool := PyData.eqv (pd q) (pd r)
noncomputable def metOf (qs : List Ps) : Nat → List Ps
  | 0 => []
  | i + 1 => match qs[i]? with
    | some q => if memQ q (qs.take i) then metOf qs i else metOf qs i ++ [q]
    | none => metOf qs i
noncomputable def grpOf (qs : List Ps) : Nat → List Ps
  | 0 => []
  | i + 1 => match qs[i]? with
    | some q => if i = 0 then grpOf qs i ++ [q] else match qs[i - 1]? with
      | some r => if eqQ q r then grpOf qs i else grpOf qs i ++ [q]
      | none => grpOf qs i
    | none => grpOf qs i
end Mine

namespace Mine
theorem quietT8 : True := by
  w_top off
  trivial
open PySem PySem.W PyProof.Rows PySem.Spec PySem.Calls
set_option Elab.async false
set_option maxRecDepth 100000
set_option maxHeartbeats 1000000
theorem notin_pass {prog : Program} {w : World} {A : Around} {E : Value → Shared → Prop} {s : Shared} {h₀ : Heap} {L l a : Addr} {news pl : List (Addr × Obj)} {vs : List Value} {n : Nat} {qs : List Ps} {q : Ps} {t u v : Tok} {Q : Value → Shared → Prop}
    (N : News h₀ L s.heap news) (hs : ∀ p ∈ pl, p ∈ news) (hl : (l, listOf vs.toArray n) ∈ news) (hq : ArePass pl vs qs) (ha : (a, tup4 q.1 q.2.1 q.2.2.1 q.2.2.2 t u v) ∈ pl) (hu : A.units + 65 < cLine) (h : Q (.bool (!memQ q qs)) s) :
    wpAny (model prog w) A (compareOp .NotIn (.ref a) (.ref l)) Q E s :=
  SeqAt.notIn_list_reads (reads_passes N hs hl hq) (reads_tup4 N (hs _ ha)) (pds_lay qs) (pd_lay q) (room_in_shaped (pd_shaped q) hu) h
theorem part8 {w : World} {mean : ExcName → Option Value} {mg mb : Str → Option Value} {h₀ : Heap} {L fa : Addr} {c : Value} {m : Str → Option Value} {s : Shared} {Q : Flow → Shared → Prop} {E : Value → Shared → Prop}
    {ex tl : List (Addr × Obj)} {pl : Addr} {oc : Obj} {pv : List Value} {kp : Nat} {qs : List Ps}
    (_ : Below callerA h₀ [] h₀) (X : (hd.heap_39 w.params).In h₀) (_ : Top hd.view_39 (looseW hd.view_39 []) mean mg mb h₀) (F : Fr h₀ L s.heap m) (N : News h₀ L s.heap (ex ++ tl))
    (hc : (L + 1 + 1 + 1 + 1, oc) ∈ tl) (hcd : oc.data = Data.cell (some (.ref pl))) (hpl : (pl, listOf pv.toArray kp) ∈ tl) (hP : ArePass tl pv qs) (hlen : pv.length ≤ 1000)
    (next : ∀ h' tk' m' e me, Fr h₀ L h' m' → m' (Str.ofString "met") = some (.ref e) → (∀ z, z ≠ Str.ofString "met" → m' z = m z) → News h₀ L h' ((e, LCg.lst me) :: (ex ++ tl)) → (∀ p ∈ ex ++ tl, p.1 ≠ e) → ArePass tl me (metOf qs qs.length) →
      RunsAt w L fa c 9 Q { s with heap := h', toks := tk' }) :
    RunsAt w L fa c 8 Q s := by
  refine ⟨?_⟩
  dsimp only [lawScope, lawBody, lawScopeS, lawBodyS, rowP, lawA, lawEnv, List.drop]
  k_with_none
  have X0 := X
  revert X; k_fill; intro X
  k_with "execs!" => k_dflt (
    with_reducible show wpAny _ _ (execs [_, _, _, _, _] _) _ _ _
    obtain ⟨rfl, hme⟩ := hJ
    with_reducible rename News _ _ _ _ => N9
    with_reducible rename Fr _ _ _ _ => F9
    with_reducible rename LCg.Off1 _ _ => o9
    rw [List.size_toArray, hP.length] at hme
    refine RunsAt.use (k := 9) ?z1 ?z2
    case z1 => exact rfl
    exact next _ _ _ _ _ F9 rfl (fun z hz => if_neg hz) N9 (fun p hp => Ne.symm (ne_of_off1 o9 p hp)) hme)
  k_with "comp!" => k_dflt (refine Assign_ListComp_E (F₀ := by k_asm) (by rfl) (by with_unfolding_all rfl) (by with_unfolding_all rfl) (by decide) (by rfl) (by decide) (by rfl) (by rfl) (by decide) (by rfl) (by rfl) ?_)
  k_with "enum!" => k_dflt (
    refine' en_call (ax := pl) (its := pv.toArray) (k := kp) (fun i ys nw => nw = ex ++ tl ∧ ArePass tl ys (metOf qs i)) ?e1 ?e2 ?e3 ?e4 ?e5 ?e6 (fun g => ?turn) (fun g ys nw hJ => ?_)
    case e1 => rfl
    case e2 => k_asm
    case e3 => k_asm
    case e4 => (rw [List.size_toArray, PySem.sizeLine_eq]; omega)
    case e5 => (rintro i ys nw ⟨rfl, _⟩; k_mem)
    case e6 => exact ⟨rfl, .nil⟩
    case' turn =>
      intro i ys nw v t e it oe oi C oC D m₂ h tk E' hv hJ hC' hxa hxb F1 N1 off1 ne1
      obtain ⟨rfl, hys⟩ := hJ
      rw [List.getElem?_toArray] at hv
      obtain ⟨a9, b9, p9, q9, r9, u1, u2, u3, rfl, hm9, hq9⟩ := hP.at hv
      have hi9 : i < pv.length := (List.getElem?_eq_some_iff.mp hv).1
      clear ne1
    all_goals (try dsimp only))
  k_with "slice!" => k_dflt (
    refine' kmk_slice_lit (zs := pv.take i) ?y1 ?y2 ?y3 ?y4 ?y5 ?y6 ?_ ?y7 ?y8 ?y9
    case y1 => k_asm
    case y2 => k_asm
    case y3 => exact News.isList (by k_asm) (by k_mem)
    case y4 => exact IsPart.none
    case y5 => exact IsPart.int _ _
    case y6 => exact pick_upto pv (by omega)
    case y7 => with_unfolding_all rfl
    case y8 => (intro _; with_unfolding_all rfl)
    case y9 => (rw [List.size_toArray, PySem.sizeLine_eq]; omega)
    intro D9 h9 F9 N9 l9
    try dsimp only)
  k_with "notin!" => k_dflt (
    refine' notin_pass (pl := tl) (qs := qs.take i) (q := (b9, p9, q9, r9)) ?k1 ?k2 ?k3 ?k4 ?k5 ?k6 ?_
    case k1 => k_asm
    case k2 => exact fun p hp => by k_mem
    case k3 => k_mem
    case k4 => exact hP.take i
    case k5 => exact hm9
    case k6 => k_units
    k_whole
    try dsimp only)
  k_steps
  · refine ⟨h9, _, ex ++ tl, rfl, F9, fun p hp => N9 p (.tail _ hp), off1, rfl, ?_⟩
    have hmem : memQ (b9, p9, q9, r9) (List.take i qs) = true := by assumption
    simp only [metOf, hq9, hmem, if_true]
    exact hys
  · refine ⟨h9, _, ex ++ tl, rfl, F9, fun p hp => N9 p (.tail _ hp), off1, rfl, ?_⟩
    have hmem : memQ (b9, p9, q9, r9) (List.take i qs) = false := by assumption
    simp only [metOf, hq9, hmem, Bool.false_eq_true, if_false]
    exact hys.append (.cons hm9 .nil)
end Mine

namespace Mine
theorem quietT9 : True := by
  w_top off
  trivial
open PySem PySem.W PyProof.Rows PySem.Spec PySem.Calls
set_option Elab.async false
set_option maxRecDepth 100000
set_option maxHeartbeats 1000000
theorem allLt_of {a : Addr} : ∀ {l : List (Addr × Obj)}, (∀ p ∈ l, p.1 < a) → AllLt a l
  | [], _ => trivial
  | _ :: _, h => ⟨h _ (.head _), allLt_of fun p hp => h p (.tail _ hp)⟩
noncomputable def want0 : List Ps := [(true, 0, 1, 0), (false, 0, 2, 1), (false, 0, 2, 6), (false, 2, 1, 1), (true, 1, 0, 0), (false, 1, 0, 1)]
theorem part9 {w : World} {mean : ExcName → Option Value} {mg mb : Str → Option Value} {h₀ : Heap} {L fa : Addr} {c : Value} {m : Str → Option Value} {s : Shared} {Q : Flow → Shared → Prop} {nw : List (Addr × Obj)}
    (_ : Below callerA h₀ [] h₀) (X : (hd.heap_39 w.params).In h₀) (_ : Top hd.view_39 (looseW hd.view_39 []) mean mg mb h₀) (F : Fr h₀ L s.heap m) (N : News h₀ L s.heap nw)
    (next : ∀ h' tk' m' e wv tl', Fr h₀ L h' m' → m' (Str.ofString "wanted") = some (.ref e) → (∀ z, z ≠ Str.ofString "wanted" → m' z = m z) → News h₀ L h' ((e, listOf (List.toArray wv) 0) :: (tl' ++ nw)) → TbOff tl' nw → ArePass tl' wv want0 →
      RunsAt w L fa c 10 Q { s with heap := h', toks := tk' }) :
    RunsAt w L fa c 9 Q s := by
  refine ⟨?_⟩
  dsimp only [lawScope, lawBody, lawScopeS, lawBodyS, rowP, lawA, lawEnv, List.drop]
  k_with_none
  have X0 := X
  revert X; k_fill; intro X
  k_with "execs!" => k_dflt (
    with_reducible show wpAny _ _ (execs [_, _, _, _] _) _ _ _
    with_reducible rename Fr _ _ _ _ => F9
    with_reducible rename News _ _ _ _ => N9
    rename (∀ p ∈ nw, _ < _) => q1
    rename (_ < _ ∧ AllLt _ nw) => q2
    rename (_ < _ ∧ _ < _ ∧ AllLt _ nw) => q3
    rename (_ < _ ∧ _ < _ ∧ _ < _ ∧ AllLt _ nw) => q4
    rename (_ < _ ∧ _ < _ ∧ _ < _ ∧ _ < _ ∧ AllLt _ nw) => q5
    rename (_ < _ ∧ _ < _ ∧ _ < _ ∧ _ < _ ∧ _ < _ ∧ AllLt _ nw) => q6
    refine RunsAt.use (k := 10) ?z1 ?z2
    case z1 => exact rfl
    exact next _ _ _ _ [_, _, _, _, _, _] [_, _, _, _, _, _] F9 rfl (fun z hz => if_neg hz) N9 (off_lt' q6.2.2.2.2.2 (off_lt' q5.2.2.2.2 (off_lt' q4.2.2.2 (off_lt' q3.2.2 (off_lt' q2.2 (off_lt' (allLt_of q1) off_nil)))))) (.cons (by k_mem) (.cons (by k_mem) (.cons (by k_mem) (.cons (by k_mem) (.cons (by k_mem) (.cons (by k_mem) .nil)))))))
  k_steps
end Mine

namespace Mine
theorem quietT10 : True := by
  w_top off
  trivial
open PySem PySem.W PyProof.Rows PySem.Spec PySem.Calls
set_option Elab.async false
set_option maxRecDepth 100000
set_option maxHeartbeats 1000000
section
variable {prog : Program} {w : World} {A : Around} {h₀ : Heap} {L : Addr} {m : Str → Option Value} {env : Env} {ct elt : Expr} {x : Str} {scope : Scope} {cl : List (Str × Addr)} {s : Shared} {S : List (Addr × Obj) → Prop} {P : Nat → Value → Prop} {Fin : List Value → List (Addr × Obj) → Prop} {news : List (Addr × Obj)}
theorem rest_invT {n : Nat} (J : Nat → List Value → List (Addr × Obj) → Prop) (h0 : J 0 [] news)
    (turn : ∀ i ys nw v I oI C oC D m₂ h tk (E' : Value → Shared → Prop), i < n → P i v → J i ys nw → LCg.NsObj oC m₂ → m₂ x = some v → Fr h₀ L h m → News h₀ L h ((I, oI) :: (C, oC) :: (D, LCg.lst ys) :: nw) → LCg.Off3 I C D nw → ((@Ne Nat I C) ∧ (@Ne Nat I D) ∧ (@Ne Nat C D)) →
      wpAny (model prog w) A (isTrue ct (compEnvC scope cl C env) (eval ct (compEnvC scope cl C env))) (fun ok s' => if ok = true then
        wpAny (model prog w) A (eval elt (compEnvC scope cl C env)) (LCg.CompEnd h₀ L m { s with heap := h, toks := tk } I oI C oC D (LCg.lst ys) S (fun y nw' => J (i + 1) (ys ++ [y]) nw')) E' s'
        else LCg.CompEnd h₀ L m { s with heap := h, toks := tk } I oI C oC D (LCg.lst ys) S (fun _ nw' => J (i + 1) ys nw') Value.none s') E' { s with heap := h, toks := tk })
    (fin : ∀ ys nw, J n ys nw → Fin ys nw) : LCt.CompRestT prog w A h₀ L m env ct elt x scope cl s S P Fin n 0 [] news := by
  have key : ∀ (j i : Nat) (ys : List Value) (nw : List (Addr × Obj)), i + j = n → J i ys nw → LCt.CompRestT prog w A h₀ L m env ct elt x scope cl s S P Fin j i ys nw := by
    intro j
    induction j with
    | zero =>
      intro i ys nw hi hy
      have e : i = n := by omega
      subst e
      exact LCt.CompRestT.zero (fin ys nw hy)
    | succ j ih =>
      intro i ys nw hi hy
      refine LCt.CompRestT.succ ?_
      intro v I oI C oC D m₂ h tk E' hv hC hx F N off ne
      refine wpAny_mono (turn i ys nw v I oI C oC D m₂ h tk E' (by omega) hv hy hC hx F N off ne) (fun ok s₂ hq => ?_) fun _ _ e => e
      cases ok with
      | true =>
        simp only [if_true] at hq ⊢
        refine wpAny_mono hq (fun y s₃ hq => ?_) fun _ _ e => e
        obtain ⟨h', tk', nw', e, F', N', off', hS, hj⟩ := hq
        exact ⟨h', tk', nw', e, F', N', off', hS, ih (i + 1) _ _ (by omega) hj⟩
      | false =>
        simp only [Bool.false_eq_true, if_false] at hq ⊢
        obtain ⟨h', tk', nw', e, F', N', off', hS, hj⟩ := hq
        exact ⟨h', tk', nw', e, F', N', off', hS, ih (i + 1) _ _ (by omega) hj⟩
  exact key n 0 [] news (by omega) h0
end
section
variable {prog : Program} {w : World} {A : Around} {E : Value → Shared → Prop} {s : Shared} {h₀ : Heap} {L : Addr} {news : List (Addr × Obj)} {value slice : Expr} {l : Addr} {b : Bool} {p q r : Int} {t z y u : Tok} {Q : Value → Shared → Prop}
theorem tup4_0 (N : News h₀ L s.heap news) (hm : (l, tup4 b p q r t z y) ∈ news) (h : Q (.bool b) s)
    (hs : subscripted slice false (.ref l) (.int 0 u) = operate [.ref l, .int 0 u] (getItem (.ref l) (.int 0 u)) := by with_unfolding_all rfl) :
    wpAny (model prog w) A (subscriptTail value slice (.ref l) (.int 0 u)) Q E s :=
  have ht : IsTup s.heap l #[.bool b, .int p t, .int q z, .int r y] := ⟨_, N.get hm, rfl, _, rfl⟩
  tail_any ht.typeIs slot_tuple_getitem.lookup (PyProof.Rows.getItem_tuple ht (by decide) (by decide) (j := 0) rfl rfl h) hs
theorem tup4_3 (N : News h₀ L s.heap news) (hm : (l, tup4 b p q r t z y) ∈ news) (h : Q (.int r y) s)
    (hs : subscripted slice false (.ref l) (.int 3 u) = operate [.ref l, .int 3 u] (getItem (.ref l) (.int 3 u)) := by with_unfolding_all rfl) :
    wpAny (model prog w) A (subscriptTail value slice (.ref l) (.int 3 u)) Q E s :=
  have ht : IsTup s.heap l #[.bool b, .int p t, .int q z, .int r y] := ⟨_, N.get hm, rfl, _, rfl⟩
  tail_any ht.typeIs slot_tuple_getitem.lookup (PyProof.Rows.getItem_tuple ht (by decide) (by decide) (j := 3) rfl rfl h) hs
end
theorem mem3 {p x y z : Addr × Obj} {l : List (Addr × Obj)} (h : p ∈ l) : p ∈ x :: y :: z :: l := List.mem_cons_of_mem _ (List.mem_cons_of_mem _ (List.mem_cons_of_mem _ h))
theorem off1_at {d : Addr} {l : List (Addr × Obj)} (_ : LCg.Off1 d l) : ∃ x, x = d := ⟨d, rfl⟩
noncomputable def keepQ (side : Int) (q : Ps) : Bool := decide (q.2.2.2 < 6) && (q.1 || decide (1 < side))
noncomputable def thin (side : Int) (qs : List Ps) : List Ps := if side < 3 then qs.filter (keepQ side) else qs
theorem filter_snoc {α : Type} {f : α → Bool} {l : List α} {a : α} : (l ++ [a]).filter f = l.filter f ++ (if f a then [a] else []) := by
  rw [List.filter_append]; cases h : f a <;> simp [h]
theorem part10 {w : World} {mean : ExcName → Option Value} {mg mb : Str → Option Value} {h₀ : Heap} {L fa : Addr} {c : Value} {m : Str → Option Value} {s : Shared} {Q : Flow → Shared → Prop} {nw : List (Addr × Obj)} {e : Addr} {wv : List Value} {k : Nat} {qs : List Ps} {oc : Obj} {side : Int} {ts : Tok}
    (_ : Below callerA h₀ [] h₀) (X : (hd.heap_39 w.params).In h₀) (_ : Top hd.view_39 (looseW hd.view_39 []) mean mg mb h₀) (F : Fr h₀ L s.heap m) (N : News h₀ L s.heap nw)
    (hm1 : m (Str.ofString "wanted") = some (.ref e)) (hw : (e, listOf wv.toArray k) ∈ nw) (hP : ArePass nw wv qs) (hlen : wv.length ≤ 100) (hc : (L + 1 + 1, oc) ∈ nw) (hcd : oc.data = Data.cell (some (.int side ts)))
    (next : ∀ h' tk' m' e' wv' k' tl', Fr h₀ L h' m' → m' (Str.ofString "wanted") = some (.ref e') → (∀ z, z ≠ Str.ofString "wanted" → m' z = m z) → News h₀ L h' (tl' ++ nw) → TbOff tl' nw → (e', listOf (List.toArray wv') k') ∈ tl' ++ nw → ArePass nw wv' (thin side qs) →
      RunsAt w L fa c 11 Q { s with heap := h', toks := tk' }) :
    RunsAt w L fa c 10 Q s := by
  refine ⟨?_⟩
  dsimp only [lawScope, lawBody, lawScopeS, lawBodyS, rowP, lawA, lawEnv, List.drop]
  have hps : ∀ q ∈ [(Str.ofString "wanted", Value.ref e)], m q.1 = some q.2 := by
    intro q hq
    simp only [List.mem_cons, List.not_mem_nil, or_false] at hq
    rcases hq with rfl; assumption
  have F0 := fr_kst _ F hps
  clear F
  k_with_none
  have X0 := X
  revert X; k_fill; intro X
  k_with "execs!" => k_dflt (
    with_reducible show wpAny _ _ (execs [_, _, _] _) _ _ _
    with_reducible rename Fr _ _ _ _ => F9
    with_reducible rename News _ _ _ _ => N9
    refine RunsAt.use (k := 11) ?z1 ?z2
    case z1 => exact rfl
    exact next _ _ _ _ _ _ [] F9 rfl (fun z hz => kstB_eq hps fun _ => rfl) N9 off_nil hw (by rw [thin, if_neg (by assumption)]; exact hP))
  k_with "execs!" => k_dflt (
    with_reducible show wpAny _ _ (execs [_, _, _] _) _ _ _
    with_reducible rename Fr _ _ _ _ => F9
    with_reducible rename News _ _ _ _ => N9
    with_reducible rename LCg.Off1 _ _ => o9
    obtain ⟨rfl, hme⟩ := hJ
    rw [List.size_toArray, hP.length, List.take_length] at hme
    refine RunsAt.use (k := 11) ?z3 ?z4
    case z3 => exact rfl
    obtain ⟨d9, rfl⟩ := off1_at o9
    exact next _ _ _ d9 ys ys.length [(d9, LCg.lst ys)] F9 rfl (fun z hz => (if_neg hz).trans (kstB_eq hps fun _ => rfl)) N9 (off_cons (ne_of_off1 o9) off_nil) (.head _) (by rw [thin, if_pos (by assumption)]; exact hme))
  k_with "comp!" => k_dflt (refine LCt.Assign_ListComp_T (F₀ := by k_asm) (by rfl) (by with_unfolding_all rfl) (by with_unfolding_all rfl) (by decide) (by rfl) (by decide) (by rfl) (by rfl) (by rfl) ?_)
  k_with "CompSrcT!" => k_dflt (
    refine' LCt.CompSrcT.ledger (its := wv.toArray) (k := k) ?e1 ?e2 ?e3 ?e4 ?e5 ?_
    case e1 => rfl
    case e2 => k_asm
    case e3 => k_asm
    case e4 => k_mem
    case e5 => (rw [List.size_toArray, PySem.sizeLine_eq]; omega)
    intro g'
    refine' rest_invT (fun i ys nw' => nw' = nw ∧ ArePass nw ys ((qs.take i).filter (keepQ side))) ⟨rfl, .nil⟩ (fun i ys nw' v I' oI' C' oC' D' m' h' tk' E' hi' hv hJ hC' hx' F' N' off' ne' => ?turn) (fun ys nw' hJ => ?_)
    case' turn =>
      obtain ⟨rfl, hys⟩ := hJ
      rw [List.getElem?_toArray] at hv
      obtain ⟨a9, b9, p9, q9, r9, u1, u2, u3, rfl, hm9, hq9⟩ := hP.at hv
      clear ne'
    all_goals (try dsimp only))
  k_with "item!" => k_dflt (
    (with_reducible show wpAny _ _ (subscriptTail _ _ (Value.ref _) (Value.int 0 _)) _ _ _)
    refine' tup4_0 ?y1 (mem3 hm9) ?_
    case y1 => with_reducible assumption
    k_whole
    try dsimp only)
  k_with "item!" => k_dflt (
    (with_reducible show wpAny _ _ (subscriptTail _ _ (Value.ref _) (Value.int 3 _)) _ _ _)
    refine' tup4_3 ?y1 (mem3 hm9) ?_
    case y1 => with_reducible assumption
    k_whole
    try dsimp only)
  k_steps
  · refine LCg.CompEnd.intro F' N' _ (fun p hp => hp) off' (.inr ⟨_, hw, rfl, _, rfl⟩) ⟨rfl, ?_⟩
    have hk : keepQ side (b9, p9, q9, r9) = true := by simp [keepQ, (show r9 < 6 by assumption), (show b9 = true by assumption)]
    rw [take_snoc hq9, filter_snoc, if_pos hk]
    exact hys.append (.cons hm9 .nil)
  · refine LCg.CompEnd.intro F' N' _ (fun p hp => hp) off' (.inr ⟨_, hw, rfl, _, rfl⟩) ⟨rfl, ?_⟩
    have hk : keepQ side (b9, p9, q9, r9) = true := by simp [keepQ, (show r9 < 6 by assumption), (show 1 < side by assumption)]
    rw [take_snoc hq9, filter_snoc, if_pos hk]
    exact hys.append (.cons hm9 .nil)
  · refine LCg.CompEnd.intro F' N' _ (fun p hp => hp) off' (.inr ⟨_, hw, rfl, _, rfl⟩) ⟨rfl, ?_⟩
    have hk : keepQ side (b9, p9, q9, r9) = false := by simp [keepQ, (show b9 = false by assumption), (show ¬ 1 < side by assumption)]
    rw [take_snoc hq9, filter_snoc, hk, if_neg Bool.false_ne_true, List.append_nil]
    exact hys
  · refine LCg.CompEnd.intro F' N' _ (fun p hp => hp) off' (.inr ⟨_, hw, rfl, _, rfl⟩) ⟨rfl, ?_⟩
    have hk : keepQ side (b9, p9, q9, r9) = false := by simp [keepQ, (show ¬ r9 < 6 by assumption)]
    rw [take_snoc hq9, filter_snoc, hk, if_neg Bool.false_ne_true, List.append_nil]
    exact hys
end Mine

namespace Mine
theorem quietT11 : True := by
  w_top off
  trivial
open PySem PySem.W PyProof.Rows PySem.Spec PySem.Calls
set_option Elab.async false
set_option maxRecDepth 100000
set_option maxHeartbeats 1000000
theorem ne_pass {prog : Program} {w : World} {A : Around} {E : Value → Shared → Prop} {s : Shared} {h₀ : Heap} {L a b : Addr} {news : List (Addr × Obj)} {q r : Ps} {t u v t' u' v' : Tok} {Q : Value → Shared → Prop}
    (N : News h₀ L s.heap news) (ha : (a, tup4 q.1 q.2.1 q.2.2.1 q.2.2.2 t u v) ∈ news) (hb : (b, tup4 r.1 r.2.1 r.2.2.1 r.2.2.2 t' u' v') ∈ news) (hu : A.units + 64 < cLine) (h : Q (.bool (!eqQ q r)) s) :
    wpAny (model prog w) A (compareOp .NotEq (.ref a) (.ref b)) Q E s :=
  SeqAt.compareNe_shaped (reads_tup4 N ha) (reads_tup4 N hb) (pd_shaped q) (pd_shaped r) hu h
theorem ArePass.get {news : List (Addr × Obj)} {vs : List Value} {qs : List Ps} (h : ArePass news vs qs) {i : Nat} (hi : i < vs.length) : ∃ b p q r a t u z, vs[i]? = some (.ref a) ∧ (a, tup4 b p q r t u z) ∈ news ∧ qs[i]? = some (b, p, q, r) := by
  have hv := List.getElem?_eq_getElem hi
  obtain ⟨a, b, p, q, r, t, u, z, e, hm, hq⟩ := h.at hv
  exact ⟨b, p, q, r, a, t, u, z, e ▸ hv, hm, hq⟩
theorem mem4 {p x y z u : Addr × Obj} {l r : List (Addr × Obj)} (h : p ∈ r) : p ∈ x :: y :: z :: u :: (l ++ r) := List.mem_cons_of_mem _ (List.mem_cons_of_mem _ (List.mem_cons_of_mem _ (List.mem_cons_of_mem _ (List.mem_append.mpr (.inr h)))))
theorem part11 {w : World} {mean : ExcName → Option Value} {mg mb : Str → Option Value} {h₀ : Heap} {L fa : Addr} {c : Value} {m : Str → Option Value} {s : Shared} {Q : Flow → Shared → Prop}
    {ex tl : List (Addr × Obj)} {pl : Addr} {oc : Obj} {pv : List Value} {kp : Nat} {qs : List Ps}
    (_ : Below callerA h₀ [] h₀) (X : (hd.heap_39 w.params).In h₀) (_ : Top hd.view_39 (looseW hd.view_39 []) mean mg mb h₀) (F : Fr h₀ L s.heap m) (N : News h₀ L s.heap (ex ++ tl))
    (hc : (L + 1 + 1 + 1 + 1, oc) ∈ tl) (hcd : oc.data = Data.cell (some (.ref pl))) (hpl : (pl, listOf pv.toArray kp) ∈ tl) (hP : ArePass tl pv qs) (hlen : pv.length ≤ 1000)
    (next : ∀ h' tk' m' e me, Fr h₀ L h' m' → m' (Str.ofString "grouped") = some (.ref e) → (∀ z, z ≠ Str.ofString "grouped" → m' z = m z) → News h₀ L h' ((e, LCg.lst me) :: (ex ++ tl)) → (∀ p ∈ ex ++ tl, p.1 ≠ e) → ArePass tl me (grpOf qs qs.length) →
      RunsAt w L fa c 12 Q { s with heap := h', toks := tk' }) :
    RunsAt w L fa c 11 Q s := by
  refine ⟨?_⟩
  dsimp only [lawScope, lawBody, lawScopeS, lawBodyS, rowP, lawA, lawEnv, List.drop]
  k_with_none
  have X0 := X
  revert X; k_fill; intro X
  k_with "execs!" => k_dflt (
    with_reducible show wpAny _ _ (execs [_, _] _) _ _ _
    with_reducible rename News _ _ _ _ => N9
    with_reducible rename Fr _ _ _ _ => F9
    with_reducible rename LCg.Off1 _ _ => o9
    obtain ⟨rfl, hme⟩ := hJ
    rw [List.size_toArray, hP.length] at hme
    refine RunsAt.use (k := 12) ?z1 ?z2
    case z1 => exact rfl
    exact next _ _ _ _ _ F9 rfl (fun z hz => if_neg hz) N9 (fun p hp => Ne.symm (ne_of_off1 o9 p hp)) hme)
  k_with "comp!" => k_dflt (refine Assign_ListComp_E (F₀ := by k_asm) (by rfl) (by with_unfolding_all rfl) (by with_unfolding_all rfl) (by decide) (by rfl) (by decide) (by rfl) (by rfl) (by decide) (by rfl) (by rfl) ?_)
  k_with "enum!" => k_dflt (
    refine' en_call (ax := pl) (its := pv.toArray) (k := kp) (fun i ys nw => nw = ex ++ tl ∧ ArePass tl ys (grpOf qs i)) ?e1 ?e2 ?e3 ?e4 ?e5 ?e6 (fun g => ?turn) (fun g ys nw hJ => ?_)
    case e1 => rfl
    case e2 => k_asm
    case e3 => k_asm
    case e4 => (rw [List.size_toArray, PySem.sizeLine_eq]; omega)
    case e5 => (rintro i ys nw ⟨rfl, _⟩; k_mem)
    case e6 => exact ⟨rfl, .nil⟩
    case' turn =>
      intro i ys nw v t e it oe oi C oC D m₂ h tk E' hv hJ hC' hxa hxb F1 N1 off1 ne1
      obtain ⟨rfl, hys⟩ := hJ
      rw [List.getElem?_toArray] at hv
      obtain ⟨a9, b9, p9, q9, r9, u1, u2, u3, rfl, hm9, hq9⟩ := hP.at hv
      have hi9 : i < pv.length := (List.getElem?_eq_some_iff.mp hv).1
      clear ne1
    all_goals (try dsimp only))
  k_with "item!" => k_dflt (
    (with_reducible show wpAny _ _ (subscriptTail _ _ (Value.ref pl) (Value.int _ _)) _ _ _)
    have hi8 : i - 1 < pv.length := by omega
    obtain ⟨b8, p8, q8, r8, a8, w1, w2, w3, hv8, hm8, hq8⟩ := hP.get hi8
    refine' item_ref (v := a8) (N := N1) (mem4 hpl) ?lo ?hi ?hx ?_
    case lo => omega
    case hi => omega
    case hx =>
      rw [show ((i : Int) - 1).toNat = i - 1 by omega, List.getElem?_toArray]
      exact hv8
    k_whole
    try dsimp only)
  k_with "ne!" => k_dflt (
    refine' ne_pass (q := (b9, p9, q9, r9)) (r := (b8, p8, q8, r8)) N1 (mem4 hm9) (mem4 hm8) ?k6 ?_
    case k6 => k_units
    k_whole
    try dsimp only)
  k_steps
  · refine ⟨h, _, ex ++ tl, rfl, F1, N1, off1, rfl, ?_⟩
    have hz : i = 0 := by omega
    simp only [grpOf, hq9, if_pos hz]
    exact hys.append (.cons hm9 .nil)
  · refine ⟨h, _, ex ++ tl, rfl, F1, N1, off1, rfl, ?_⟩
    have hz : ¬ i = 0 := by omega
    have hk : eqQ (b9, p9, q9, r9) (b8, p8, q8, r8) = true := by assumption
    simp only [grpOf, hq9, if_neg hz, hq8, hk, if_true]
    exact hys
  · refine ⟨h, _, ex ++ tl, rfl, F1, N1, off1, rfl, ?_⟩
    have hz : ¬ i = 0 := by omega
    have hk : eqQ (b9, p9, q9, r9) (b8, p8, q8, r8) = false := by assumption
    simp only [grpOf, hq9, if_neg hz, hq8, hk, Bool.false_eq_true, if_false]
    exact hys.append (.cons hm9 .nil)
end Mine

namespace Mine
theorem quietT12 : True := by
  w_top off
  trivial
open PySem PySem.W PyProof.Rows PySem.Spec PySem.Calls PyProof.Rows.LCg
set_option Elab.async false
set_option maxRecDepth 100000
set_option maxHeartbeats 2000000
noncomputable abbrev comp2 (x y : Str) (px py pe : Pos) (i0 ct i1 : Expr) (scope : Scope) (pos : Pos) : Expr := .ListComp (.Name y pe) [⟨.Name x px, i0, [ct], 0⟩, ⟨.Name y py, i1, [], 0⟩] scope pos
section
variable {x y : Str} {px py pe : Pos} {i0 ct i1 : Expr} {scope : Scope} {pos : Pos} {it acc : Value} {env : Env}
theorem turn2_1 : compTurn (comp2 x y px py pe i0 ct i1 scope pos) 1 it acc env = (do
      standAt i1.pos
      match ← pyNext it with
      | none => pure (.done .next)
      | some v =>
        letOwnedTupleGo (.Name y py) it v
        assign (.Name y py) env v
        let mut ok := true
        for c in ([] : List Expr) do
          if ok then ok ← isTrue c env (eval c env)
        if ok then
          (do let _ ← call (.builtin "list.append") [acc, ← eval (.Name y pe) env])
        again (.compLoop (comp2 x y px py pe i0 ct i1 scope pos) 1 it acc env)) := by rfl
theorem turn2_0 : compTurn (comp2 x y px py pe i0 ct i1 scope pos) 0 it acc env = (do
      standAt i0.pos
      match ← pyNext it with
      | none => pure (.done .next)
      | some v =>
        letOwnedTupleGo (.Name x px) it v
        assign (.Name x px) env v
        let mut ok := true
        for c in [ct] do
          if ok then ok ← isTrue c env (eval c env)
        if ok then
          let z ← eval i1 env
          standAt i1.pos
          let z ← foldedSetIterable i1 env z
          let _ ← runOwn (.compStart (comp2 x y px py pe i0 ct i1 scope pos) 1 (← holding [z] (pyIter z)) acc env) env
        again (.compLoop (comp2 x y px py pe i0 ct i1 scope pos) 0 it acc env)) := by rfl
variable {prog : Program} {w : World} {A : Around} {E : Value → Shared → Prop} {s : Shared} {R : Result → Shared → Prop}
theorem start2_1
    (h0 : codeAny (model prog w) A (.compLoop (comp2 x y px py pe i0 ct i1 scope pos) 1 it acc env) R s)
    (h : wpAny (model prog w) A (pyIter it) (fun it' s' => codeAny (model prog w) A (.compLoop (comp2 x y px py pe i0 ct i1 scope pos) 1 it' acc env) R s')
      (notedBy (model prog w) A env fun x s' => R (.error x) s') s) :
    codeAny (model prog w) A (.compStart (comp2 x y px py pe i0 ct i1 scope pos) 1 it acc env) R s := by
  refine codeAny_of_tree ?_
  show wpAny _ _ ((compStart (comp2 x y px py pe i0 ct i1 scope pos) 1 it acc env).onRaise (fun x => do noteFrame x env; standAt theWindowsPlace)) _ _ s
  refine wpAny_notedAt ?_
  unfold compStart
  show wpAny _ _ (ask >>= _) _ _ s
  refine wpAny_bind (wpAny_askSetting (wpAny_ite ?_))
  split
  · first
      | exact wpAny_bind (wpAny_pure (wpAny_pure (And.intro rfl h0)))
      | exact wpAny_pure (And.intro rfl h0)
  · first
      | exact wpAny_bind (wpAny_rule (wpAny_bind (wpAny_standAt (wpAny_bind (wpAny_mono h (fun it' s' h' => wpAny_pure (And.intro rfl h')) fun _ _ x => x)))))
      | (refine wpAny_bind (wpAny_rule ?_); show wpAny _ _ (standAt i1.pos >>= _) _ _ s; exact wpAny_bind (wpAny_standAt (wpAny_bind (wpAny_mono h (fun it' s' h' => wpAny_pure (And.intro rfl h')) fun _ _ x => x))))
theorem loop2_1 (I : Nat → Shared → Prop)
    (turn : ∀ n s, I n s → wpAny (model prog w) A (pyNext it) (fun r s₁ => match r with
      | none => R (.ok .next) s₁
      | some v => wpAny (model prog w) A (assign (.Name y py) env v) (fun _ s₂ =>
          wpAny (model prog w) A (eval (.Name y pe) env) (fun x s₄ =>
              wpAny (model prog w) A (call (.builtin "list.append") [acc, x]) (fun _ s₅ => ∃ m, m < n ∧ I m s₅) (notedBy (model prog w) A env fun e s' => R (.error e) s') s₄) (notedBy (model prog w) A env fun e s' => R (.error e) s') s₂)
          (notedBy (model prog w) A env fun e s' => R (.error e) s') s₁) (notedBy (model prog w) A env fun e s' => R (.error e) s') s)
    (n : Nat) (h : I n s) : codeAny (model prog w) A (.compLoop (comp2 x y px py pe i0 ct i1 scope pos) 1 it acc env) R s := by
  refine codeAny_loop rfl I (fun n s hI => ?_) n h
  show wpAny _ A ((compTurn (comp2 x y px py pe i0 ct i1 scope pos) 1 it acc env).onRaise (fun x => do noteFrame x env; theTreesLotGoes x)) _ _ s
  refine wpAny_noted ?_
  rw [turn2_1]
  refine wpAny_bind (wpAny_standAt (wpAny_bind (wpAny_mono (turn n s hI) (fun r s₁ h₁ => ?_) fun _ _ h' => h')))
  cases r with
  | none => exact wpAny_pure h₁
  | some v =>
    refine wpAny_bind (wpAny_of_eq (show letOwnedTupleGo (.Name y py) it v = pure () from rfl) ?_)
    refine wpAny_bind (wpAny_mono h₁ (fun _ s₂ h₂ => wpAny_bind (wpAny_mono (wpAny_tests_nil (Q := fun ok s₃ => ok = true ∧ s₃ = s₂) ⟨rfl, rfl⟩) (fun ok s₃ h₃ => ?_) fun _ _ h' => h')) fun _ _ h' => h')
    obtain ⟨rfl, rfl⟩ := h₃
    exact wpAny_bind (wpAny_bind (wpAny_mono h₂ (fun x s₄ h₄ => wpAny_bind (wpAny_mono h₄ (fun _ s₅ h₅ => wpAny_pure (wpAny_pure ⟨rfl, h₅⟩)) fun _ _ h' => h')) fun _ _ h' => h'))
theorem loop2_0 (I : Nat → Shared → Prop)
    (turn : ∀ n s, I n s → wpAny (model prog w) A (pyNext it) (fun r s₁ => match r with
      | none => R (.ok .next) s₁
      | some v => wpAny (model prog w) A (assign (.Name x px) env v) (fun _ s₂ =>
          wpAny (model prog w) A (isTrue ct env (eval ct env)) (fun ok s₃ => if ok = true then
            wpAny (model prog w) A (eval i1 env) (fun z s₄ => wpAny (model prog w) A (pyIter z) (fun it' s₅ => codeAny (model prog w) A (.compStart (comp2 x y px py pe i0 ct i1 scope pos) 1 it' acc env) (fun r s₆ => match r with | .ok _ => ∃ m, m < n ∧ I m s₆ | .error _ => False) s₅)
              (notedBy (model prog w) A env fun e s' => R (.error e) s') s₄) (notedBy (model prog w) A env fun e s' => R (.error e) s') s₃
            else ∃ m, m < n ∧ I m s₃) (notedBy (model prog w) A env fun e s' => R (.error e) s') s₂)
          (notedBy (model prog w) A env fun e s' => R (.error e) s') s₁) (notedBy (model prog w) A env fun e s' => R (.error e) s') s)
    (hs : ∀ z, foldedSetIterable i1 env z = pure z) (n : Nat) (h : I n s) : codeAny (model prog w) A (.compLoop (comp2 x y px py pe i0 ct i1 scope pos) 0 it acc env) R s := by
  refine codeAny_loop rfl I (fun n s hI => ?_) n h
  show wpAny _ A ((compTurn (comp2 x y px py pe i0 ct i1 scope pos) 0 it acc env).onRaise (fun x => do noteFrame x env; theTreesLotGoes x)) _ _ s
  refine wpAny_noted ?_
  rw [turn2_0]
  refine wpAny_bind (wpAny_standAt (wpAny_bind (wpAny_mono (turn n s hI) (fun r s₁ h₁ => ?_) fun _ _ h' => h')))
  cases r with
  | none => exact wpAny_pure h₁
  | some v =>
    refine wpAny_bind (wpAny_of_eq (show letOwnedTupleGo (.Name x px) it v = pure () from rfl) ?_)
    refine wpAny_bind (wpAny_mono h₁ (fun _ s₂ h₂ => wpAny_bind (wpAny_mono (wpAny_tests_one h₂) (fun ok s₃ h₃ => ?_) fun _ _ h' => h')) fun _ _ h' => h')
    cases ok with
    | false => exact wpAny_pure ⟨rfl, h₃⟩
    | true =>
      refine wpAny_bind (wpAny_mono h₃ (fun z s₄ h₄ => ?_) fun _ _ h' => h')
      refine wpAny_bind (wpAny_standAt (wpAny_bind (wpAny_of_eq (hs z) (wpAny_bind (wpAny_holding (wpAny_mono h₄ (fun it' s₅ h₅ => ?_) fun _ _ h' => h'))))))
      refine wpAny_bind (wpAny_runOwn (codeAny_mono h₅ fun r s₆ h₆ => ?_))
      cases r with
      | ok f => exact wpAny_pure ⟨rfl, h₆⟩
      | error e => exact h₆.elim
theorem inner2 {I lp D C : Addr} {its : Array Value} {ys : List Value} {m' : Str → Option Value} {cl : List (Str × Addr)}
    (hh : A.handled = none) (hkind : scope.kind = .function) (hy : scope.names.lookup y = some .local) (hyd : (y == ("__debug__" : Str)) = false) (hsz : ys.length + its.size ≤ sizeLine)
    (hli : lp ≠ I) (hCI : C ≠ I) (hDI : D ≠ I) (hCD : C ≠ D) (hlC : lp ≠ C) (hlD : lp ≠ D)
    (hst : s.heap.IsListIter I lp 0 ∧ s.heap.IsList lp its) (hD : s.heap.get? D = some (lst ys)) (hC : s.heap.Ns C m')
    (done : ∀ h' tk m'', (∀ b o, b ∉ [I, D, C] → s.heap.get? b = some o → h'.get? b = some o) → h'.get? D = some (lst (ys ++ its.toList)) → h'.Ns C m'' → R (.ok .next) { s with heap := h', toks := tk }) :
    codeAny (model prog w) A (.compLoop (comp2 x y px py pe i0 ct i1 scope pos) 1 (.ref I) (.ref D) (compEnvC scope cl C env)) R s := by
  have W := Walks.list (prog := prog) (w := w) hh I lp hli its
  refine loop2_1 (fun q s' => ∃ h' tk i m', s' = { s with heap := h', toks := tk } ∧ i ≤ its.size ∧ q = its.size + 1 - i ∧ (h'.IsListIter I lp i ∧ h'.IsList lp its) ∧ h'.get? D = some (lst (ys ++ its.toList.take i)) ∧ h'.Ns C m' ∧
      (∀ b o, b ∉ [I, D, C] → s.heap.get? b = some o → h'.get? b = some o)) ?_ (its.size + 1) ⟨s.heap, s.toks, 0, m', rfl, Nat.zero_le _, rfl, hst, by rw [List.take_zero, List.append_nil]; exact hD, hC, fun _ _ _ e => e⟩
  rintro q s' ⟨h', tk, i, m₁, rfl, hi, rfl, hst', hD', hC', hk'⟩
  by_cases hlt : i < its.size
  · refine W.item i _ _ _ hlt hst' fun v h₂ tk₂ hPv hst₂ hk₂ => ?_
    have hC₂ : h₂.Ns C m₁ := hC'.at' fun o e => hk₂ _ o (by simpa using hCI) e
    have hD₂ : h₂.get? D = some (lst (ys ++ its.toList.take i)) := hk₂ _ _ (by simpa using hDI) hD'
    refine wpAny_assign_Name (wpAny_storeName_local (lookup_relabel_local hy) hC₂ (fun h₃ hn₃ hs₃ => ?_) (by simp [compEnvC, relabel, hkind]))
    refine wpAny_Name (wpAny_loadName_local (by simp [compEnvC, relabel, hkind]) (lookup_relabel_local hy) hn₃ (v := v) (by simp) ?_) hyd
    have hD₃ : h₃.get? D = some (lst (ys ++ its.toList.take i)) := hs₃.extBut _ _ (Ne.symm hCD) hD₂
    refine append_at (hsz := ?hz) hD₃ fun h₅ hs₅ hD₅ => ?go
    case hz =>
      show (ys ++ its.toList.take i).toArray.size ≤ sizeLine
      rw [List.size_toArray, List.length_append, List.length_take, Array.length_toList]
      exact Nat.le_trans (Nat.add_le_add_left (Nat.min_le_right _ _) _) hsz
    case go =>
      have e1 : its.toList.take (i + 1) = its.toList.take i ++ [v] := take_snoc (by rw [Array.getElem?_toList]; exact hPv)
      refine ⟨its.size + 1 - (i + 1), by omega, h₅, _, i + 1, _, rfl, hlt, rfl, W.frame _ _ _ hst₂ fun b hb o e => ?_, ?_, hn₃.sameBut hs₅ hCD, fun b o hb e => ?_⟩
      · have hbD : b ≠ D := fun q => by
          rw [q] at hb
          simp only [List.mem_cons, List.not_mem_nil, or_false] at hb
          rcases hb with h | h
          · exact hDI h
          · exact hlD h.symm
        have hbC : b ≠ C := fun q => by
          rw [q] at hb
          simp only [List.mem_cons, List.not_mem_nil, or_false] at hb
          rcases hb with h | h
          · exact hCI h
          · exact hlC h.symm
        exact hs₅.extBut b o hbD (hs₃.extBut b o hbC e)
      · rw [e1, ← List.append_assoc]
        exact hD₅.trans (congrArg some (lst_snoc _ v))
      · simp only [List.mem_cons, List.not_mem_nil, or_false, not_or] at hb
        exact hs₅.extBut b o hb.2.1 (hs₃.extBut b o hb.2.2 (hk₂ b o (by simpa using hb.1) (hk' b o (by simp [hb.1, hb.2.1, hb.2.2]) e)))
  · obtain rfl : i = its.size := Nat.le_antisymm hi (Nat.not_lt.mp hlt)
    refine W.done _ _ _ hst' fun h₂ tk₂ hk₂ => done h₂ tk₂ m₁ (fun b o hb e => ?_) ?_ ?_
    · have hb' := hb
      simp only [List.mem_cons, List.not_mem_nil, or_false, not_or] at hb'
      exact hk₂ b o (by simpa using hb'.1) (hk' b o hb e)
    · have := hk₂ _ _ (by simpa using hDI) hD'
      rwa [List.take_of_length_le (by rw [Array.length_toList]; exact Nat.le_refl _)] at this
    · exact hC'.at' fun o e => hk₂ _ o (by simpa using hCI) e
end
section
variable {x y : Str} {px py pe : Pos} {i0 ct i1 : Expr} {scope : Scope} {pos : Pos} {env : Env} {prog : Program} {w : World} {A : Around} {E : Value → Shared → Prop} {s : Shared} {h₀ : Heap} {L : Addr} {m : Str → Option Value}
noncomputable def C2Mid (h₀ : Heap) (L : Addr) (m : Str → Option Value) (s₁ : Shared) (I : Addr) (oI : Obj) (C : Addr) (oC : Obj) (D : Addr) (ys : List Value) (J : List Value → List (Addr × Obj) → Prop) (xv : Value) (s₂ : Shared) : Prop :=
  ∃ lp vp np h' tk nw', xv = .ref lp ∧ s₂ = { s₁ with heap := h', toks := tk } ∧ Fr h₀ L h' m ∧ News h₀ L h' ((I, oI) :: (C, oC) :: (D, lst ys) :: nw') ∧ Off3 I C D nw' ∧ (lp, listOf (List.toArray vp) np) ∈ nw' ∧ ys.length + vp.length ≤ sizeLine ∧ J (ys ++ vp) nw'
noncomputable def C2Turn (prog : Program) (w : World) (A : Around) (h₀ : Heap) (L : Addr) (m : Str → Option Value) (env : Env) (ct i1 : Expr) (x : Str) (scope : Scope) (cl : List (Str × Addr)) (s : Shared) (its : Array Value) (J : Nat → List Value → List (Addr × Obj) → Prop) : Prop :=
  ∀ i ys nw v I oI C oC D m₂ h tk (E' : Value → Shared → Prop), its[i]? = some v → J i ys nw → NsObj oC m₂ → m₂ x = some v → Fr h₀ L h m →
    News h₀ L h ((I, oI) :: (C, oC) :: (D, lst ys) :: nw) → Off3 I C D nw → ((@Ne Nat I C) ∧ (@Ne Nat I D) ∧ (@Ne Nat C D)) →
    wpAny (model prog w) A (isTrue ct (compEnvC scope cl C env) (eval ct (compEnvC scope cl C env))) (fun ok s' => if ok = true then
      wpAny (model prog w) A (eval i1 (compEnvC scope cl C env)) (C2Mid h₀ L m { s with heap := h, toks := tk } I oI C oC D ys (J (i + 1))) E' s'
      else CompEnd h₀ L m { s with heap := h, toks := tk } I oI C oC D (lst ys) (fun _ => True) (fun _ nw' => J (i + 1) ys nw') Value.none s') E' { s with heap := h, toks := tk }
noncomputable def Inv2 (h₀ : Heap) (L : Addr) (m : Str → Option Value) (s₂ : Shared) (I ax C D : Addr) (its : Array Value) (J : Nat → List Value → List (Addr × Obj) → Prop) (q : Nat) (s' : Shared) : Prop :=
  ∃ h' tk i ys m' news', s' = { s₂ with heap := h', toks := tk } ∧ i ≤ its.size ∧ q = its.size + 1 - i ∧ (h'.IsListIter I ax i ∧ h'.IsList ax its) ∧ Fr h₀ L h' m ∧ h'.Ns C m' ∧ News h₀ L h' ((D, lst ys) :: news') ∧ Off3 I C D news' ∧ J i ys news'
theorem block_2 {cl : List (Str × Addr)} {s₂ : Shared} {I ax : Addr} {its : Array Value} {k : Nat} {news : List (Addr × Obj)} {J : Nat → List Value → List (Addr × Obj) → Prop}
    {RR : Value → Addr → Result → Shared → Prop}
    (hh : A.handled = none) (hli : ax ≠ I) (hcell : ∀ y ∈ scope.names, y.2 ≠ .cell) (hkind : scope.kind = .function) (hx : scope.names.lookup x = some .local) (hy : scope.names.lookup y = some .local) (hyd : (y == ("__debug__" : Str)) = false)
    (hs1 : ∀ env z, foldedSetIterable i1 env z = pure z)
    (hst : s₂.heap.IsListIter I ax 0 ∧ s₂.heap.IsList ax its)
    (F : Fr h₀ L s₂.heap m) (N : News h₀ L s₂.heap news) (hLI : L ≠ I) (hI₀ : h₀.get? I = none) (off : ∀ p ∈ news, p.1 ≠ I)
    (hax : ∀ i ys nw, J i ys nw → (ax, listOf its k) ∈ nw) (h0 : J 0 [] news) (turn : C2Turn prog w A h₀ L m env ct i1 x scope cl s₂ its J)
    (hRR : ∀ D C h tk m' ys news', Fr h₀ L h m → News h₀ L h ((D, lst ys) :: news') → Off1 D news' → h.Ns C m' → h₀.get? C = none → h₀.get? D = none → C ≠ L → D ≠ L → C ≠ D → (∀ p ∈ news', p.1 ≠ C) → J its.size ys news' → RR (.ref D) C (.ok .next) { s₂ with heap := h, toks := tk }) :
    wpAny (model prog w) A (newList []) (fun acc s₃ => wpAny (model prog w) A (newFunctionEnv scope env.globals cl [] env.qual none .none (some env)) (fun cenv s₄ =>
      codeAny (model prog w) A (.compStart (comp2 x y px py pe i0 ct i1 scope pos) 0 (.ref I) acc { cenv with scope := relabel scope env }) (RR acc cenv.locals) s₄) E s₃) E s₂ := by
  refine wpAny_newObj_type (wpAny_newFunctionEnv hcell (by intro y hy; simp at hy) (fun h₁ hns₁ hsb₁ => ?_) hkind)
  dsimp only at hns₁ hsb₁ ⊢
  have W := Walks.list (prog := prog) (w := w) hh I ax hli its
  generalize hH2 : s₂.heap.push { cls := .type "list", dict := none, data := .seq ([] : List Value).toArray } = H2 at hns₁ hsb₁ ⊢
  have hC : H2.objs.size = s₂.heap.objs.size + 1 := by rw [← hH2, Heap.size_push]
  have hDC : s₂.heap.objs.size ≠ H2.objs.size := by rw [hC]; exact Nat.ne_of_lt (Nat.lt_succ_self _)
  have below : ∀ b, b < s₂.heap.objs.size → b ≠ H2.objs.size ∧ b ≠ s₂.heap.objs.size := fun b hb => ⟨by rw [hC]; exact Nat.ne_of_lt (Nat.lt_succ_of_lt hb), Nat.ne_of_lt hb⟩
  have hfp : ∀ b ∈ [I, ax], b < s₂.heap.objs.size := by
    intro b hb
    obtain ⟨⟨o2, x2, _⟩, ⟨o3, x3, _⟩⟩ := hst
    simp only [List.mem_cons, List.not_mem_nil, or_false] at hb
    rcases hb with rfl | rfl
    · exact Heap.lt_size x2
    · exact Heap.lt_size x3
  have hDf : s₂.heap.objs.size ∉ [I, ax] := fun hm => Nat.lt_irrefl _ (hfp _ hm)
  have hCf : H2.objs.size ∉ [I, ax] := fun hm => by have := hfp _ hm; rw [hC] at this; exact Nat.lt_irrefl _ (Nat.lt_of_succ_lt this)
  have old : ∀ b o, s₂.heap.get? b = some o → h₁.get? b = some o := fun b o e => hsb₁.extBut b o (below b (Heap.lt_size e)).1 (Heap.get?_push_of_some _ (hH2 ▸ Heap.get?_push_of_some _ e))
  have hacc : h₁.get? s₂.heap.objs.size = some (lst []) := hsb₁.extBut _ _ hDC (Heap.get?_push_of_some _ (hH2 ▸ Heap.get?_push_size _ rfl))
  have hst₁ := W.frame 0 _ _ hst fun b _ o e => old b o e
  have fresh : ∀ a, s₂.heap.objs.size ≤ a → s₂.heap.get? a = none := fun a ha => by
    cases e : s₂.heap.get? a with
    | none => rfl
    | some o' => exact absurd (Heap.lt_size e) (Nat.not_lt.mpr ha)
  have fresh₀ : ∀ a, s₂.heap.objs.size ≤ a → h₀.get? a = none := fun a ha => by
    cases e : h₀.get? a with
    | none => rfl
    | some o' => have := F.keep a o' e; rw [fresh a ha] at this; cases this
  have hD₀ : h₀.get? s₂.heap.objs.size = none := fresh₀ _ (Nat.le_refl _)
  have hC₀ : h₀.get? H2.objs.size = none := fresh₀ _ (by rw [hC]; exact Nat.le_succ _)
  have hLlt : L < s₂.heap.objs.size := F.ns.lt
  have hDL : s₂.heap.objs.size ≠ L := Ne.symm (below L hLlt).2
  have hCL : H2.objs.size ≠ L := Ne.symm (below L hLlt).1
  have hIle := below I (hfp I (by simp))
  have off₀ : Off3 I H2.objs.size s₂.heap.objs.size news := Off3.of fun p hp => ⟨off p hp, (below _ (Heap.lt_size (N p hp).1)).1, (below _ (Heap.lt_size (N p hp).1)).2⟩
  have loop : ∀ s₃ : Shared, s₃ = { s₂ with heap := h₁, toks := s₂.toks + ([] : List (Str × Value)).length } →
      codeAny (model prog w) A (.compLoop (comp2 x y px py pe i0 ct i1 scope pos) 0 (.ref I) (.ref s₂.heap.objs.size) (compEnvC scope cl H2.objs.size env))
        (RR (.ref s₂.heap.objs.size) H2.objs.size) s₃ := by
    rintro s₃ rfl
    refine loop2_0
      (Inv2 h₀ L m s₂ I ax H2.objs.size s₂.heap.objs.size its J) ?_ (hs1 _) (its.size + 1)
      ⟨h₁, _, 0, [], _, news, rfl, Nat.zero_le _, rfl, hst₁, F.keeps old, hns₁, fun p hp => ?_, off₀, h0⟩
    · rintro q s' ⟨h', tk, i, ys, m', news', rfl, hi, rfl, hst', F', hn', N', off', hJ⟩
      have off3 := off'.mem
      by_cases hlt : i < its.size
      · refine W.item i _ _ _ hlt hst' fun v h₂ tk₂ hPv hst₂ hk₂ => ?_
        refine wpAny_assign_Name (wpAny_storeName_local (lookup_relabel_local hx) (hn'.at' fun o e => hk₂ _ o (by simpa using Ne.symm hIle.1) e) (fun h₃ hn₃ hs₃ => ?_) (by simp [compEnvC, relabel, hkind]))
        have hst₃ := W.frame _ _ _ hst₂ fun b hb o e => hs₃.extBut b o (fun q => hCf (by have q' : b = H2.objs.size := q; rw [← q']; exact hb)) e
        obtain ⟨⟨oI, heI, hiI⟩, hlI⟩ := hst₃
        obtain ⟨oC, heC, hoC⟩ := ns_obj hn₃
        have F₃ : Fr h₀ L h₃ m := (fr_but F' hk₂ hLI hI₀).change hs₃ hCL hC₀
        have N₂ : News h₀ L h₂ ((s₂.heap.objs.size, lst ys) :: news') := news_but N' hk₂ fun p hp => by
          rcases List.mem_cons.mp hp with rfl | hp
          · exact Ne.symm hIle.2
          · exact (off3 p hp).1
        have N₃ : News h₀ L h₃ ((I, oI) :: (H2.objs.size, oC) :: (s₂.heap.objs.size, lst ys) :: news') := fun p hp => by
          rcases List.mem_cons.mp hp with rfl | hp
          · exact ⟨heI, Ne.symm hLI, hI₀⟩
          · rcases List.mem_cons.mp hp with rfl | hp
            · exact ⟨heC, hCL, hC₀⟩
            · have z := N₂ p hp
              refine ⟨hs₃.extBut _ _ ?_ z.1, z.2⟩
              rcases List.mem_cons.mp hp with rfl | hp
              · exact hDC
              · exact (off3 p hp).2.1
        refine wpAny_mono (turn i ys news' v I oI H2.objs.size oC s₂.heap.objs.size _ h₃ _ _ hPv hJ hoC (by simp) F₃ N₃ off' ⟨hIle.1, hIle.2, Ne.symm hDC⟩) (fun ok s₄ h₄ => ?_) fun _ _ e => e
        cases ok with
        | false =>
          simp only [Bool.false_eq_true, if_false] at h₄ ⊢
          obtain ⟨h₄, tk₄, news₄, rfl, F₄, N₄, off₄, _, hJ₄⟩ := h₄
          have zC := (N₄ (H2.objs.size, oC) (.tail _ (.head _))).1
          refine ⟨its.size + 1 - (i + 1), by omega, h₄, tk₄, i + 1, ys, _, news₄, rfl, hlt, rfl, ⟨⟨oI, (N₄ _ (.head _)).1, hiI⟩, ⟨_, (N₄ _ (.tail _ (.tail _ (.tail _ (hax _ _ _ hJ₄))))).1, rfl, _, rfl⟩⟩, F₄, hoC.ns zC, fun p hp => N₄ p (.tail _ (.tail _ hp)), off₄, hJ₄⟩
        | true =>
          simp only [if_true] at h₄ ⊢
          refine wpAny_mono h₄ (fun xv s₅ h₅ => ?_) fun _ _ e => e
          obtain ⟨lp, vp, np, h₄, tk₄, news₄, rfl, rfl, F₄, N₄, off₄, hlp, hsz, hJ₄⟩ := h₅
          have off4 := off₄.mem
          have zI := (N₄ (I, oI) (.head _)).1
          have zC := (N₄ (H2.objs.size, oC) (.tail _ (.head _))).1
          have zD := (N₄ (s₂.heap.objs.size, lst ys) (.tail _ (.tail _ (.head _)))).1
          have zl := (N₄ _ (.tail _ (.tail _ (.tail _ hlp)))).1
          have hl : h₄.IsList lp vp.toArray := ⟨_, zl, rfl, _, rfl⟩
          have lt4 : ∀ {a : Addr} {o : Obj}, h₄.get? a = some o → a ≠ h₄.objs.size := fun e => Nat.ne_of_lt (Heap.lt_size e)
          refine wpAny_pyIter_list hl ?_
          have inner : codeAny (model prog w) A (.compLoop (comp2 x y px py pe i0 ct i1 scope pos) 1 (.ref h₄.objs.size) (.ref s₂.heap.objs.size) (compEnvC scope cl H2.objs.size env))
              (fun (r : Result) s₆ => match r with
                | .ok _ => ∃ m_1, m_1 < its.size + 1 - i ∧ Inv2 h₀ L m s₂ I ax H2.objs.size s₂.heap.objs.size its J m_1 s₆
                | .error _ => False)
              { s₂ with heap := h₄.push { cls := .type "list_iterator", data := .fields #[.ref lp, .int 0 0] }, toks := tk₄ } := by
            refine inner2 (its := vp.toArray) (ys := ys) hh hkind hy hyd (by rw [List.size_toArray]; exact hsz) (lt4 zl) (lt4 zC) (lt4 zD) (Ne.symm hDC) (off4 _ hlp).2.1 (off4 _ hlp).2.2
              ⟨⟨_, Heap.get?_push_size _ rfl, rfl, rfl⟩, hl.push _⟩ (Heap.get?_push_of_some _ zD) ((hoC.ns zC).at' fun o e => Heap.get?_push_of_some _ e) ?_
            intro h₆ tk₆ m₆ hk₆ hD₆ hC₆
            have keep : ∀ b o, b ≠ s₂.heap.objs.size → b ≠ H2.objs.size → h₄.get? b = some o → h₆.get? b = some o := fun b o h1 h2 e =>
              hk₆ b o (by simp [h1, h2, lt4 e]) (Heap.get?_push_of_some _ e)
            have F₆ : Fr h₀ L h₆ m := ⟨F₄.ns.at' fun o e => keep L o (Ne.symm hDL) (Ne.symm hCL) e, fun b o e => keep b o (fun q => by rw [q, hD₀] at e; cases e) (fun q => by rw [q, hC₀] at e; cases e) (F₄.keep b o e), F₄.above⟩
            refine ⟨its.size + 1 - (i + 1), by omega, h₆, tk₆, i + 1, ys ++ vp, m₆, news₄, rfl, hlt, rfl, ⟨⟨oI, keep I oI hIle.2 hIle.1 zI, hiI⟩, ⟨_, keep ax _ ?_ ?_ (N₄ _ (.tail _ (.tail _ (.tail _ (hax _ _ _ hJ₄))))).1, rfl, _, rfl⟩⟩, F₆, hC₆, fun p hp => ?_, off₄, hJ₄⟩
            · exact (off4 _ (hax _ _ _ hJ₄)).2.2
            · exact (off4 _ (hax _ _ _ hJ₄)).2.1
            · rcases List.mem_cons.mp hp with rfl | hp
              · exact ⟨hD₆, hDL, hD₀⟩
              · have z := N₄ p (.tail _ (.tail _ (.tail _ hp)))
                exact ⟨keep _ _ (off4 p hp).2.2 (off4 p hp).2.1 z.1, z.2⟩
          refine start2_1 inner (wpAny_pyIter_listiter ⟨_, Heap.get?_push_size _ rfl, rfl, rfl⟩ inner)
      · obtain rfl : i = its.size := Nat.le_antisymm hi (Nat.not_lt.mp hlt)
        refine W.done _ _ _ hst' fun h₂ tk₂ hk₂ => ?_
        exact hRR _ _ h₂ tk₂ _ ys news' (fr_but F' hk₂ hLI hI₀) (news_but N' hk₂ fun p hp => by
          rcases List.mem_cons.mp hp with rfl | hp
          · exact Ne.symm hIle.2
          · exact (off3 p hp).1) off'.one (hn'.at' fun o e => hk₂ _ o (by simpa using Ne.symm hIle.1) e) hC₀ hD₀ hCL hDL (Ne.symm hDC) (fun p hp => (off3 p hp).2.1) hJ
    · rcases List.mem_cons.mp hp with rfl | hp
      · exact ⟨hacc, hDL, hD₀⟩
      · exact ⟨old _ _ (N p hp).1, (N p hp).2⟩
  exact codeAny_compStart_list (loop _ rfl) (W.self 0 _ _ _ hst₁ (loop _ rfl))
noncomputable def C2Src (prog : Program) (w : World) (A : Around) (h₀ : Heap) (L : Addr) (m : Str → Option Value) (env : Env) (ct i1 : Expr) (x : Str) (scope : Scope) (cl : List (Str × Addr)) (Fin : Shared → List Value → List (Addr × Obj) → Prop) (xv : Value) (s₁ : Shared) : Prop :=
  ∃ ax its k news J, xv = .ref ax ∧ A.handled = none ∧ Fr h₀ L s₁.heap m ∧ News h₀ L s₁.heap news ∧ (∀ i ys nw, J i ys nw → (ax, listOf its k) ∈ nw) ∧ J 0 [] news ∧ (∀ g, C2Turn prog w A h₀ L m env ct i1 x scope cl { s₁ with heap := g } its J) ∧ ∀ g ys nw, J its.size ys nw → Fin { s₁ with heap := g } ys nw
theorem C2Src.intro {cl : List (Str × Addr)} {Fin : Shared → List Value → List (Addr × Obj) → Prop} {ax : Addr} {its : Array Value} {k : Nat} {news : List (Addr × Obj)} {s₁ : Shared} (J : Nat → List Value → List (Addr × Obj) → Prop)
    (hh : A.handled = none) (F : Fr h₀ L s₁.heap m) (N : News h₀ L s₁.heap news) (hax : ∀ i ys nw, J i ys nw → (ax, listOf its k) ∈ nw) (h0 : J 0 [] news) (turn : ∀ g, C2Turn prog w A h₀ L m env ct i1 x scope cl { s₁ with heap := g } its J)
    (fin : ∀ g ys nw, J its.size ys nw → Fin { s₁ with heap := g } ys nw) : C2Src prog w A h₀ L m env ct i1 x scope cl Fin (.ref ax) s₁ := ⟨ax, its, k, news, J, rfl, hh, F, N, hax, h0, turn, fin⟩
theorem Assign_ListComp_2 {z : Str} {pz : Pos} {cl : List (Str × Addr)} {pos spos : Pos} {Q : Flow → Shared → Prop} (F₀ : Fr h₀ L s.heap m) (hLe : env.locals = L)
    (hsw : swapsWith (comp2 x y px py pe i0 ct i1 scope pos) (some (.Name z pz)) spos.line env = pure true)
    (hclos : closureFor scope env = pure cl) (hcell : ∀ z ∈ scope.names, z.2 ≠ .cell) (hkind : scope.kind = .function)
    (hnames : ∀ z ∈ scope.names, z.2 = .local → scope.names.lookup z.1 = some .local) (hx : scope.names.lookup x = some .local) (hy : scope.names.lookup y = some .local) (hyd : (y == ("__debug__" : Str)) = false)
    (hz : env.kindOf z = some .local) (hp : (env.scope.kind == .class || (env.scope.kind == .module && env.locals != env.globals)) = false)
    (h : wpAny (model prog w) A (eval i0 env) (C2Src prog w A h₀ L m env ct i1 x scope cl (fun s₂ => FinA h₀ L m s₂ z Q)) E s)
    (hs : ∀ x, foldedSetIterable i0 env x = pure x := by intro _; rfl) (hs1 : ∀ env z, foldedSetIterable i1 env z = pure z := by intro _ _; rfl) :
    wpAny (model prog w) A (exec (.Assign [.Name z pz] (comp2 x y px py pe i0 ct i1 scope pos) spos) env) Q E s := by
  subst hLe
  rw [exec_Assign_Name_used _ _ _ _ hsw]
  refine wpAny_bind (wpAny_standAt (wpAny_bind ?_))
  show wpAny _ A (do let _ ← comprehension (comp2 x y px py pe i0 ct i1 scope pos) scope env _ (newList []) false (eval i0 env) (some (assign (.Name z pz) env))) _ _ s
  refine wpAny_bind (wpAny_mono (wpAny_comprehension_free (use := some (assign (.Name z pz) env)) (Q := fun _ s' => Q .next s') rfl hs hclos hkind hnames
    (wpAny_mono h (fun xv s₁ h₁ => ?_) fun _ _ e => e)) (fun _ s' hq => wpAny_pure (wpAny_pure hq)) fun _ _ e => e)
  obtain ⟨ax, its, k, news, J, rfl, hh, F, N, hax, h0, turn, fin₀⟩ := h₁
  have zax := (N _ (hax _ _ _ h0)).1
  have hl : s₁.heap.IsList ax its := ⟨_, zax, rfl, _, rfl⟩
  have hlt : ax < s₁.heap.objs.size := Heap.lt_size zax
  have up : ∀ b o, s₁.heap.get? b = some o → (s₁.heap.push { cls := .type "list_iterator", data := .fields #[.ref ax, .int 0 0] }).get? b = some o := fun b o e => Heap.get?_push_of_some _ e
  refine wpAny_pyIter_list hl ?_
  refine block_2 hh (Nat.ne_of_lt hlt) hcell hkind hx hy hyd hs1 ⟨⟨_, Heap.get?_push_size _ rfl, rfl, rfl⟩, hl.push _⟩ (F.keeps up) (N.grown up) (Nat.ne_of_lt F.ns.lt) (next_is_new F) (fun p hp => Nat.ne_of_lt (Heap.lt_size (N p hp).1)) hax h0 (turn _) ?_
  intro D C h' tk m' ys news' F' N' o1 hn hC₀ hD₀ hCL hDL hCD offC hJ
  have fin := fin₀ s₁.heap ys news' hJ
  show wpAny _ A (assign (.Name z pz) env (.ref D)) _ _ _
  refine wpAny_assign_Name (wpAny_storeName_local hz F'.ns (fun h₂ hn₂ hs₂ => ?_) hp)
  have hL₀ : h₀.get? env.locals = none := Heap.get?_none_of_le F'.above
  have F₂ : Fr h₀ env.locals h₂ (fun q => if q = z then some (.ref D) else m q) := ⟨hn₂, fun b o e => hs₂.extBut b o (fun q => by rw [q, hL₀] at e; cases e) (F'.keep b o e), F'.above⟩
  refine ⟨m', hn.sameBut hs₂ hCL, fun h'' hs'' => fin D h'' _ (F₂.change hs'' hCL hC₀) (fun p hp => ?_) o1⟩
  have zz : h₂.get? p.1 = some p.2 := hs₂.extBut _ _ (N' p hp).2.1 (N' p hp).1
  refine ⟨hs''.extBut _ _ ?_ zz, (N' p hp).2⟩
  rcases List.mem_cons.mp hp with rfl | hp
  · exact Ne.symm hCD
  · exact offC p hp
end
end Mine

namespace Mine
theorem quietT13 : True := by
  w_top off
  trivial
open PySem PySem.W PyProof.Rows PySem.Spec PySem.Calls
set_option Elab.async false
set_option maxRecDepth 100000
set_option maxHeartbeats 1000000
noncomputable def placesOf : List Sc → List Int
  | [] => []
  | σ :: r => (if σ.st = 0 ∧ σ.hi = 0 then σ.ps else []) ++ placesOf r
theorem placesOf_snoc {σ : Sc} : ∀ {l : List Sc}, placesOf (l ++ [σ]) = placesOf l ++ (if σ.st = 0 ∧ σ.hi = 0 then σ.ps else [])
  | [] => by simp [placesOf]
  | a :: r => by rw [List.cons_append, placesOf, placesOf_snoc, placesOf, List.append_assoc]
theorem IntsAre.app {vs ws : List Value} {ps qs : List Int} (h : IntsAre vs ps) (k : IntsAre ws qs) : IntsAre (vs ++ ws) (ps ++ qs) := by
  induction h with
  | nil => exact k
  | cons n t _ ih => exact .cons n t ih
theorem places_len {σs : List Sc} (hg : ∀ σ ∈ σs, Good σ) : (placesOf σs).length ≤ σs.length * 5 := by
  induction σs with
  | nil => exact Nat.le_refl _
  | cons a r ih =>
    have h1 := ih fun σ h => hg σ (.tail _ h)
    have h2 := (hg a (.head _)).few
    rw [placesOf, List.length_append, List.length_cons]
    split
    · omega
    · simp only [List.length_nil]; omega
theorem part12 {w : World} {mean : ExcName → Option Value} {mg mb : Str → Option Value} {h₀ : Heap} {L fa : Addr} {c : Value} {m : Str → Option Value} {s : Shared} {Q : Flow → Shared → Prop}
    {ex tl : List (Addr × Obj)} {sl : Addr} {sv : List Value} {ks : Nat} {σs : List Sc}
    (_ : Below callerA h₀ [] h₀) (X : (hd.heap_39 w.params).In h₀) (_ : Top hd.view_39 (looseW hd.view_39 []) mean mg mb h₀) (F : Fr h₀ L s.heap m) (N : News h₀ L s.heap (ex ++ tl))
    (hm1 : m (Str.ofString "scans") = some (.ref sl)) (hsl : (sl, listOf sv.toArray ks) ∈ tl) (hσ : AreScans w.params tl sv σs) (hg : ∀ σ ∈ σs, Good σ) (hlen : σs.length ≤ 90)
    (next : ∀ h' tk' m' e ys, Fr h₀ L h' m' → m' (Str.ofString "places") = some (.ref e) → (∀ z, z ≠ Str.ofString "places" → m' z = m z) → News h₀ L h' ((e, LCg.lst ys) :: (ex ++ tl)) → (∀ p ∈ ex ++ tl, p.1 ≠ e) → IntsAre ys (placesOf σs) →
      RunsAt w L fa c 13 Q { s with heap := h', toks := tk' }) :
    RunsAt w L fa c 12 Q s := by
  refine ⟨?_⟩
  dsimp only [lawScope, lawBody, lawScopeS, lawBodyS, rowP, lawA, lawEnv, List.drop]
  have hps : ∀ q ∈ [(Str.ofString "scans", Value.ref sl)], m q.1 = some q.2 := by
    intro q hq
    simp only [List.mem_cons, List.not_mem_nil, or_false] at hq
    rcases hq with rfl; assumption
  have F0 := fr_kst _ F hps
  clear F
  k_with_none
  have X0 := X
  revert X; k_fill; intro X
  k_with "execs!" => k_dflt (
    with_reducible show wpAny _ _ (execs [_] _) _ _ _
    with_reducible rename News _ _ _ _ => N9
    with_reducible rename Fr _ _ _ _ => F9
    with_reducible rename LCg.Off1 _ _ => o9
    obtain ⟨rfl, hme⟩ := hJ
    rw [List.size_toArray, hσ.length, List.take_length] at hme
    refine RunsAt.use (k := 13) ?z1 ?z2
    case z1 => exact rfl
    exact next _ _ _ _ _ F9 rfl (fun z hz => (if_neg hz).trans (kstB_eq hps fun _ => rfl)) N9 (fun p hp => Ne.symm (ne_of_off1 o9 p hp)) hme)
  k_with "comp!" => k_dflt (refine Assign_ListComp_2 (F₀ := by k_asm) (by rfl) (by with_unfolding_all rfl) (by with_unfolding_all rfl) (by decide) (by rfl) (by decide) (by rfl) (by rfl) (by rfl) (by rfl) (by rfl) ?_)
  k_with "C2Src" => k_dflt (
    refine' C2Src.intro (its := sv.toArray) (k := ks) (fun i ys nw => nw = ex ++ tl ∧ IntsAre ys (placesOf (σs.take i))) ?e1 ?e2 ?e3 ?e5 ?e6 (fun g => ?turn) (fun g ys nw hJ => ?_)
    case e1 => rfl
    case e2 => k_asm
    case e3 => k_asm
    case e5 => (rintro i ys nw ⟨rfl, _⟩; k_mem)
    case e6 => exact ⟨rfl, .nil⟩
    case' turn =>
      intro i ys nw v I oI C oC D m₂ h tk E' hv hJ hC' hxa F1 N1 off1 ne1
      obtain ⟨rfl, hys⟩ := hJ
      rw [List.getElem?_toArray] at hv
      obtain ⟨r, σ, rfl, hσi, hq⟩ := hσ.at hv
      obtain ⟨ds, lp, a1, a2, vp, v1, v2, np, n1, n2, nd, k1, k2, k3, k4, k5, k6, k7, t1, t2, t3, t4, hs1, hs2, hs3, hs4, hs5, hi1, hi2, hi3⟩ := hσi
      have hgi := hg σ (List.mem_of_getElem? hq)
      clear ne1
    all_goals (try dsimp only))
  k_steps
  · have hlen2 : ys.length + vp.length ≤ sizeLine := by
      have h1 := hys.length
      have h2 := places_len (σs := σs.take i) fun σ h => hg σ (List.mem_of_mem_take h)
      have h3 : (σs.take i).length ≤ 90 := by rw [List.length_take]; omega
      have h4 := hi1.length
      have h5 := hgi.few
      rw [PySem.sizeLine_eq]
      omega
    refine ⟨lp, vp, np, h, _, ex ++ tl, rfl, rfl, F1, N1, off1, sub_app _ hs3, hlen2, rfl, ?_⟩
    have hc : σ.st = 0 ∧ σ.hi = 0 := ⟨by assumption, by assumption⟩
    rw [take_snoc hq, placesOf_snoc, if_pos hc]
    exact IntsAre.app hys hi1
  · refine LCg.CompEnd.intro F1 N1 _ (fun p hp => hp) off1 trivial ⟨rfl, ?_⟩
    have hc : ¬ (σ.st = 0 ∧ σ.hi = 0) := fun h => absurd h.2 (by assumption)
    rw [take_snoc hq, placesOf_snoc, if_neg hc, List.append_nil]
    exact hys
  · refine LCg.CompEnd.intro F1 N1 _ (fun p hp => hp) off1 trivial ⟨rfl, ?_⟩
    have hc : ¬ (σ.st = 0 ∧ σ.hi = 0) := fun h => absurd h.1 (by assumption)
    rw [take_snoc hq, placesOf_snoc, if_neg hc, List.append_nil]
    exact hys
end Mine

namespace Mine
theorem quietT14 : True := by
  w_top off
  trivial
open PySem PySem.W PyProof.Rows PySem.Spec PySem.Calls
set_option Elab.async false
set_option maxRecDepth 100000
set_option maxHeartbeats 2000000
section
variable {prog : Program} {w : World} {K : Type} [DecidableEq K] {knd : HeapKind prog w K} {A : Around} {E : Value → Shared → Prop} {s : Shared}
theorem heq_pairs {nm : String} {a b : Addr} {xa xb : List (K × Addr × Value)} {Q : Bool → Shared → Prop} (ha : (a == sysModules) = false) (hb : (b == sysModules) = false) (hu : knd.room A)
    (da : s.heap.DictOfH knd a xa) (db : s.heap.DictOfH knd b xb) (hl : xa.length = xb.length) (hits : ∀ x ∈ xa, ∃ p, atKey xb x.1 = some p ∧ SeqAt.EqAt A s x.2.2 p.2 true) (h : Q true s) :
    wpAny (model prog w) A (Builtin.Dict.samePairs nm a b) Q E s := by
  obtain ⟨oa, es, ep, hoa, _, hda, hea, hka, hna⟩ := da
  obtain ⟨ob, es', ep', hob, _, hdb, heb, hkb, hnb⟩ := db
  have hla : es.size = xa.length := size_of_entries hea
  have hlb : es'.size = xb.length := size_of_entries heb
  unfold Builtin.Dict.samePairs Builtin.Dict.showsAll
  rw [if_neg (show ¬ (a == sysModules) = true by rw [ha]; exact Bool.false_ne_true), if_neg (show ¬ (b == sysModules) = true by rw [hb]; exact Bool.false_ne_true)]
  refine wpAny_bind (wpAny_pure (wpAny_bind (wpAny_pure ?_)))
  refine wpAny_bind (wpAny_dictEntries hoa hda ?_)
  dsimp only
  refine wpAny_bind (wpAny_dictEntries hob hdb ?_)
  have hsz : es.size = es'.size := by rw [hla, hlb, hl]
  rw [if_neg (by rw [hsz]; simp)]
  refine wpAny_bind (wpAny_dictEpoch hoa hda ?_)
  refine wpAny_bind ?_
  rw [Std.Legacy.Range.forIn_eq_forIn_range']
  simp only [Std.Legacy.Range.size, Nat.sub_zero, Nat.add_sub_cancel, Nat.div_one]
  refine wpAny_forIn_list _
    (fun rest q s' => s' = s ∧ q = (none, ()) ∧ ∃ i, rest = List.range' i (es.size - i) ∧ i ≤ es.size)
    _ ?_ ?_ _ _ ⟨rfl, rfl, 0, by simp, Nat.zero_le _⟩
  · rintro x rest q s' ⟨rfl, rfl, i, hr, hi⟩
    have hlt : i < es.size := by
      rcases Nat.lt_or_ge i es.size with h | h
      · exact h
      · rw [Nat.sub_eq_zero_of_le h] at hr; simp at hr
    obtain ⟨rfl, hrest⟩ : x = i ∧ rest = List.range' (i + 1) (es.size - (i + 1)) := by
      have e : es.size - i = (es.size - (i + 1)) + 1 := by omega
      rw [e, List.range'_succ] at hr
      injection hr with h1 h2
      exact ⟨h1, h2⟩
    refine wpAny_bind (wpAny_dictEntries hoa hda ?_)
    have hlt' : x < xa.length := by rw [← hla]; exact hlt
    obtain ⟨⟨k, t, v⟩, hkv⟩ : ∃ y, xa[x]? = some y := ⟨_, List.getElem?_eq_getElem hlt'⟩
    have hent : es[x]? = some (entryOfKey knd (k, t, v)) := by rw [entry_at hea x, hkv]; rfl
    have hmem := List.mem_of_getElem? hkv
    obtain ⟨⟨t', v'⟩, hat, heq⟩ := hits _ hmem
    have hkey := hka _ hmem
    rw [hent]
    show wpAny _ _ (holding [Value.ref t, v] _ >>= _) _ _ _
    refine wpAny_bind (wpAny_holding (wpAny_bind (wpAny_dictFind_heap hu hkey hob hdb heb hkb hnb (fun hnone => ?_) (fun j p hj => ?_))))
    · rw [atKey_none_of_get hnone] at hat; exact nomatch hat
    · have hjat := atKey_of_get hnb hj
      rw [hat] at hjat
      obtain rfl := Option.some.inj hjat
      refine wpAny_bind (wpAny_dictEntries hob hdb ?_)
      have hent' : es'[j]? = some (entryOfKey knd (k, t', v')) := by rw [entry_at heb j, hj]; rfl
      rw [hent']
      refine wpAny_holding (heq prog w _ _ ?_)
      show wpAny _ _ (if (!true) = true then _ else _) _ _ _
      rw [if_neg (by decide)]
      refine wpAny_bind (wpAny_dictEpoch hoa hda ?_)
      rw [if_neg (by simp)]
      exact wpAny_pure ⟨rfl, rfl, x + 1, hrest, hlt⟩
  · rintro q s' ⟨rfl, rfl, i, hr, hi⟩
    exact wpAny_pure h
theorem heq_eq {a b : Addr} {xa xb : List (K × Addr × Value)} {Q : Value → Shared → Prop} (ha : (a == sysModules) = false) (hb : (b == sysModules) = false) (hr : knd.room A.in1) (hu : A.units < cLine)
    (da : s.heap.DictOfH knd a xa) (db : s.heap.DictOfH knd b xb) (hl : xa.length = xb.length) (hits : ∀ x ∈ xa, ∃ p, atKey xb x.1 = some p ∧ SeqAt.EqAt A.in1 s x.2.2 p.2 true) (h : Q (.bool true) s) :
    wpAny (model prog w) A (compareOp .Eq (.ref a) (.ref b)) Q E s := by
  refine wpAny_richCompare_same_room (op := .Eq) da.typeIs db.typeIs PySem.F.slot_dict_eq (wpAny_call_entry PySem.F.slot_dict_eq da.typeIs PySem.F.entry_dict_eq ?_ (PySem.F.args_dict_eq_2 _ _)) hu
  show wpAny _ _ (Builtin.Dict.dictSlotArgs "__eq__" ⟨[.ref a, .ref b], []⟩ >>= _) _ _ s
  refine wpAny_bind ?_
  unfold Builtin.Dict.dictSlotArgs
  refine wpAny_bind (wpAny_notOrdered_dict da.typeIs ?_)
  show wpAny _ _ (pure (Value.ref a, Value.ref b)) _ _ s
  refine wpAny_pure ?_
  refine wpAny_bind (wpAny_isInstance (T := "dict") db.typeIs PySem.F.sub_dict_dict ?_)
  simp only [Bool.not_true, Bool.false_eq_true, if_false]
  refine wpAny_bind (wpAny_pure (wpAny_bind (wpAny_pure ?_)))
  refine wpAny_bind (heq_pairs ha hb hr da db hl hits ?_)
  refine wpAny_pure ⟨_, rfl, ?_, ?_⟩
  · exact fun x => nomatch x
  · simpa using h
end
noncomputable def pdp (q : Int × Int) : PyData := .tuple [.int q.1, .int q.2]
theorem pdp_shaped : ∀ qs : List (Int × Int), PyData.canLayAll0 (qs.map pdp) = true ∧ PyData.depthAll (qs.map pdp) ≤ 4
  | [] => ⟨rfl, by decide⟩
  | q :: r => by
    obtain ⟨h1, h2⟩ := pdp_shaped r
    refine ⟨?_, ?_⟩
    · show (PyData.canLay0 (pdp q) && PyData.canLayAll0 (r.map pdp)) = true
      rw [h1]; rfl
    · show max _ _ ≤ 4
      have h3 : (pdp q).depth ≤ 4 := by simp [pdp, PyData.depth, PyData.depthAll]
      omega
theorem pdps_shaped (qs : List (Int × Int)) : SeqAt.shaped (.list (qs.map pdp)) = true := by
  obtain ⟨h1, h2⟩ := pdp_shaped qs
  unfold SeqAt.shaped
  rw [Bool.and_eq_true]
  refine ⟨h1, decide_eq_true ?_⟩
  show PyData.depthAll (qs.map pdp) + 1 ≤ 64
  omega
theorem pdps_eqv : ∀ qs : List (Int × Int), PyData.eqvAll (qs.map pdp) (qs.map pdp) = true
  | [] => by simp [PyData.eqvAll]
  | q :: r => by
    rw [List.map_cons, PyData.eqvAll, pdps_eqv r, Bool.and_true]
    simp [pdp, PyData.eqv, PyData.eqvAll]
section
variable {h₀ h : Heap} {L : Addr} {news : List (Addr × Obj)}
theorem reads_tup2 {a : Addr} {p q : Int} {t u : Tok} (N : News h₀ L h news) (hm : (a, tup2 p q t u) ∈ news) : Reads h (.ref a) (pdp (p, q)) [] :=
  .tuple (N.get hm) rfl rfl (.cons (.int _ _) (.cons (.int _ _) .nil))
theorem reads_pairs (N : News h₀ L h news) : ∀ {vs : List Value} {qs : List (Int × Int)}, ArePairs news vs qs → ReadsAll h vs (qs.map pdp) [] := by
  intro vs qs R
  induction R with
  | nil => exact .nil
  | cons k _ ih =>
    obtain ⟨_, _, _, e, hm⟩ := k
    rw [e]
    exact .cons (reads_tup2 N hm) ih
theorem reads_val {v : Value} {qs : List (Int × Int)} (N : News h₀ L h news) (hv : ValIn news v qs) : ∃ as, Reads h v (.list (qs.map pdp)) as := by
  obtain ⟨a, vs, n, rfl, hm, hp⟩ := hv
  exact ⟨_, .list (N.get hm) rfl rfl (reads_pairs N hp)⟩
end
noncomputable def tabEq (A B : Tab) : Bool := A.length == B.length && A.all fun e => getT e.1 B == some e.2
theorem Rows.mem {news : List (Addr × Obj)} {x : List Int × Addr × Value} {xs : List (List Int × Addr × Value)} {D : Tab} (R : Rows news xs D) (h : x ∈ xs) : ∃ p q ps, x.1 = [p, q] ∧ ((p, q), ps) ∈ D ∧ ValIn news x.2.2 ps := by
  induction R with
  | nil => exact nomatch h
  | cons k t ih =>
    rcases List.mem_cons.mp h with rfl | h
    · exact ⟨_, _, _, k.1, .head _, k.2.2⟩
    · obtain ⟨p, q, ps, h1, h2, h3⟩ := ih h
      exact ⟨p, q, ps, h1, .tail _ h2, h3⟩
theorem eq_tab {prog : Program} {w : World} {A : Around} {E : Value → Shared → Prop} {s : Shared} {h₀ : Heap} {L a b : Addr} {ta tb all : List (Addr × Obj)} {oa ob : Obj} {D1 D2 : Tab} {Q : Value → Shared → Prop}
    (N : News h₀ L s.heap all) (ha : (a, oa) ∈ all) (hb : (b, ob) ∈ all) (sa : ∀ p ∈ ta, p ∈ all) (sb : ∀ p ∈ tb, p ∈ all) (la : (a == sysModules) = false) (lb : (b == sysModules) = false)
    (Ta : TabO prog w ta oa D1) (Tb : TabO prog w tb ob D2) (hu : A.units + 80 < cLine) (he : tabEq D1 D2 = true) (h : Q (.bool true) s) :
    wpAny (model prog w) A (compareOp .Eq (.ref a) (.ref b)) Q E s := by
  obtain ⟨xa, da, Ra⟩ := Ta.dict N ha sa
  obtain ⟨xb, db, Rb⟩ := Tb.dict N hb sb
  unfold tabEq at he
  rw [Bool.and_eq_true, beq_iff_eq, List.all_eq_true] at he
  obtain ⟨hl, hall⟩ := he
  refine heq_eq (knd := tupleKind (intKind prog w)) la lb (tupleKind_room_in1 (by omega)) (by omega) da db (by rw [Ra.length, Rb.length, hl]) (fun x hx => ?_) h
  obtain ⟨p, q, ps, hk, hm, hv⟩ := Ra.mem hx
  have hg := hall _ hm
  rw [beq_iff_eq] at hg
  rcases Rb.get (a := p) (b := q) with ⟨h1, _⟩ | ⟨ps', x', v', h1, h2, h3⟩
  · rw [h1] at hg; exact nomatch hg
  · rw [h1] at hg
    obtain rfl := Option.some.inj hg
    refine ⟨(x', v'), by rw [hk]; exact h2, ?_⟩
    obtain ⟨as, ra⟩ := reads_val N (hv.mono sa)
    obtain ⟨bs, rb⟩ := reads_val N (h3.mono sb)
    have e := keq_at (A := A) ra rb (pdps_shaped _) (pdps_shaped _) (by show A.units + 1 + 64 < cLine; omega)
    rw [show PyData.eqv (.list (ps'.map pdp)) (.list (ps'.map pdp)) = true by rw [PyData.eqv]; exact pdps_eqv ps'] at e
    exact e
noncomputable def eqP (qs rs : List Ps) : Bool := PyData.eqv (.list (qs.map pd)) (.list (rs.map pd))
theorem eq_passes {prog : Program} {w : World} {A : Around} {E : Value → Shared → Prop} {s : Shared} {h₀ : Heap} {L a b : Addr} {pa pb news : List (Addr × Obj)} {vs us : List Value} {n k : Nat} {qs rs : List Ps} {Q : Value → Shared → Prop}
    (N : News h₀ L s.heap news) (sa : ∀ p ∈ pa, p ∈ news) (sb : ∀ p ∈ pb, p ∈ news) (ha : (a, listOf vs.toArray n) ∈ news) (hb : (b, listOf us.toArray k) ∈ news) (Pa : ArePass pa vs qs) (Pb : ArePass pb us rs) (hu : A.units + 64 < cLine) (h : Q (.bool (eqP qs rs)) s) :
    wpAny (model prog w) A (compareOp .Eq (.ref a) (.ref b)) Q E s :=
  SeqAt.compareEq_shaped (reads_passes N sa ha Pa) (reads_passes N sb hb Pb) (pds_shaped qs) (pds_shaped rs) hu h
end Mine

namespace Mine
theorem quietT15 : True := by
  w_top off
  trivial
open PySem PySem.W PyProof.Rows PySem.Spec PySem.Calls
set_option Elab.async false
set_option maxRecDepth 100000
set_option maxHeartbeats 1000000
theorem part13 {w : World} {mean : ExcName → Option Value} {mg mb : Str → Option Value} {h₀ : Heap} {L fa : Addr} {c : Value} {m : Str → Option Value} {s : Shared} {Q : Flow → Shared → Prop}
    {all : List (Addr × Obj)} {d e a b g pp : Addr} {od oe : Obj} {D1 D2 : Tab} {mv wv gv yv : List Value} {n1 n2 n3 n4 : Nat} {M W G : List Ps} {PL : List Int} {many : Nat} {tm : Tok}
    (_ : Below callerA h₀ [] h₀) (X : (hd.heap_39 w.params).In h₀) (_ : Top hd.view_39 (looseW hd.view_39 []) mean mg mb h₀) (F : Fr h₀ L s.heap m) (N : News h₀ L s.heap all)
    (hm1 : m (Str.ofString "told") = some (.ref d)) (hm2 : m (Str.ofString "due") = some (.ref e)) (hm3 : m (Str.ofString "met") = some (.ref a)) (hm4 : m (Str.ofString "wanted") = some (.ref b)) (hm5 : m (Str.ofString "grouped") = some (.ref g)) (hm6 : m (Str.ofString "places") = some (.ref pp)) (hm7 : m (Str.ofString "many") = some (.int (many : Int) tm))
    (hd1 : (d, od) ∈ all) (hd2 : (e, oe) ∈ all) (lo1 : (d == sysModules) = false) (lo2 : (e == sysModules) = false) (T1 : TabO rowP w all od D1) (T2 : TabO rowP w all oe D2)
    (ha : (a, listOf mv.toArray n1) ∈ all) (hb : (b, listOf wv.toArray n2) ∈ all) (hg : (g, listOf gv.toArray n3) ∈ all) (hp : (pp, listOf yv.toArray n4) ∈ all)
    (PM : ArePass all mv M) (PW : ArePass all wv W) (PG : ArePass all gv G) (PP : IntsAre yv PL)
    (e1 : tabEq D1 D2 = true) (e2 : eqP M W = true) (e3 : eqP G W = true) (e4 : PL = upto many) (hmy : many ≤ 5)
    (hend : ∀ h' tk' m' news', Fr h₀ L h' m' → News h₀ L h' news' → Q (.ret (.bool true)) { s with heap := h', toks := tk' }) :
    RunsAt w L fa c 13 Q s := by
  refine ⟨?_⟩
  dsimp only [lawScope, lawBody, lawScopeS, lawBodyS, rowP, lawA, lawEnv, List.drop]
  have hps : ∀ q ∈ [(Str.ofString "told", Value.ref d), (Str.ofString "due", Value.ref e), (Str.ofString "met", Value.ref a), (Str.ofString "wanted", Value.ref b), (Str.ofString "grouped", Value.ref g), (Str.ofString "places", Value.ref pp), (Str.ofString "many", Value.int (many : Int) tm)], m q.1 = some q.2 := by
    intro q hq
    simp only [List.mem_cons, List.not_mem_nil, or_false] at hq
    rcases hq with rfl | rfl | rfl | rfl | rfl | rfl | rfl <;> assumption
  have F0 := fr_kst _ F hps
  clear F
  clear hm1 hm2 hm3 hm4 hm5 hm6 hm7
  k_with_none
  have X0 := X
  revert X; k_fill; intro X
  k_with "tolist!" => k_dflt (
    refine' list_upto (n := many) ?l1 ?l2 ?l3 ?l4 ?l5 ?_
    case l1 => rfl
    case l2 => k_asm
    case l3 => k_asm
    case l4 => assumption
    case l5 => omega
    intro D9 h9 tk9 ys9 k9 F9 N9 hoD hI9
    try dsimp only)
  k_with "eq!" => k_dflt (
    (with_reducible show wpAny _ _ (compareOp _ (Value.ref pp) (Value.ref _)) _ _ _)
    refine' eq_intsK ?y1 PP ?y3 hI9 ?y5 ?_
    case y1 => exact N9.isList (.tail _ hp)
    case y3 => exact N9.isList (.head _)
    case y5 => k_units
    rw [e4]
    simp only [decide_true]
    k_whole
    try dsimp only)
  k_with "eq!" => k_dflt (
    (with_reducible show wpAny _ _ (compareOp _ (Value.ref g) (Value.ref b)) _ _ _)
    refine' eq_passes N (fun _ h => h) (fun _ h => h) hg hb PG PW ?y5 ?_
    case y5 => k_units
    rw [e3]
    k_whole
    try dsimp only)
  k_with "eq!" => k_dflt (
    (with_reducible show wpAny _ _ (compareOp _ (Value.ref a) (Value.ref b)) _ _ _)
    refine' eq_passes N (fun _ h => h) (fun _ h => h) ha hb PM PW ?y5 ?_
    case y5 => k_units
    rw [e2]
    k_whole
    try dsimp only)
  k_with "eq!" => k_dflt (
    (with_reducible show wpAny _ _ (compareOp _ (Value.ref d) (Value.ref e)) _ _ _)
    refine' eq_tab N hd1 hd2 (fun _ h => h) (fun _ h => h) lo1 lo2 T1 T2 ?y5 e1 ?_
    case y5 => k_units
    k_whole
    try dsimp only)
  k_steps
  exact hend _ _ _ _ F9 N9
end Mine

namespace Mine
theorem quietP1 : True := by
  w_top off
  trivial
open PySem PySem.W PyProof.Rows PySem.Spec PySem.Calls
set_option Elab.async false
set_option maxRecDepth 100000
set_option maxHeartbeats 4000000
noncomputable def goodB (σ : Sc) : Bool := decide (0 ≤ σ.st) && decide (σ.st ≤ 16) && decide (0 ≤ σ.en) && decide (σ.en ≤ 16) && (σ.ps.all fun p => decide (0 ≤ p)) && decide (σ.ps.length ≤ 5) && (!decide (0 < σ.st) || decide (σ.ps.length = 1)) && (!decide (σ.st = 0) || decide (σ.en = 0))
theorem good_of {σ : Sc} (h : goodB σ = true) : Good σ := by
  simp only [goodB, Bool.and_eq_true, Bool.or_eq_true, Bool.not_eq_true', decide_eq_true_eq, decide_eq_false_iff_not, List.all_eq_true] at h
  obtain ⟨⟨⟨⟨⟨⟨⟨h1, h2⟩, h3⟩, h4⟩, h5⟩, h6⟩, h7⟩, h8⟩ := h
  exact ⟨h1, h2, h3, h4, h5, h6, fun h => h7.resolve_left (fun k => k h), fun h => h8.resolve_left (fun k => k h)⟩
noncomputable def scsOf (m s : Nat) : List Sc := plainOut m (s : Int)
noncomputable def check (m s : Nat) : Bool :=
  (scsOf m s).all goodB && decide ((scsOf m s).length ≤ 90) && tabEq (toldOf (scsOf m s)) (dueAll (upto ((s : Int) * (s : Int)).toNat) (upto m)) &&
  eqP (metOf ((scsOf m s).map passOf) ((scsOf m s).map passOf).length) (thin (s : Int) want0) && eqP (grpOf ((scsOf m s).map passOf) ((scsOf m s).map passOf).length) (thin (s : Int) want0) && decide (placesOf (scsOf m s) = upto m)
theorem all_ok : (([1, 2, 3, 4, 5] : List Nat).all fun m => ([1, 2, 3, 4] : List Nat).all fun s => check m s) = true := by decide +kernel
end Mine

namespace Mine
theorem quietT16 : True := by
  w_top off
  trivial
open PySem PySem.W PyProof.Rows PySem.Spec PySem.Calls
set_option Elab.async false
set_option maxRecDepth 100000
set_option maxHeartbeats 1000000
theorem ArePass.len1000 {news : List (Addr × Obj)} {vs : List Value} {σs : List Sc} (h : ArePass news vs (σs.map passOf)) (hl : σs.length ≤ 90) : vs.length ≤ 1000 := by
  rw [h.length, List.length_map]; omega
theorem want0_len {news : List (Addr × Obj)} {vs : List Value} (h : ArePass news vs want0) : vs.length ≤ 100 := by rw [h.length]; decide
theorem tail5 {w : World} {mean : ExcName → Option Value} {mg mb : Str → Option Value} {h₀ : Heap} {L fa : Addr} {c : Value} {m : Str → Option Value} {s : Shared} {Q : Flow → Shared → Prop}
    {base : List (Addr × Obj)} {d pl sl : Addr} {od oc os : Obj} {kp ks : Nat} {sv : List Value} {σs : List Sc} {many : Nat} {side : Int} {tm ts : Tok}
    (B : Below callerA h₀ [] h₀) (X : (hd.heap_39 w.params).In h₀) (T : Top hd.view_39 (looseW hd.view_39 []) mean mg mb h₀) (F : Fr h₀ L s.heap m) (N : News h₀ L s.heap ((d, od) :: (pl, listOf #[] kp) :: base))
    (hm3 : m (Str.ofString "told") = some (.ref d)) (hm4 : m (Str.ofString "scans") = some (.ref sl)) (hm5 : m (Str.ofString "many") = some (.int (many : Int) tm))
    (hc : (L + 1 + 1 + 1 + 1, oc) ∈ base) (hcd : oc.data = Data.cell (some (.ref pl))) (hs : (L + 1 + 1, os) ∈ base) (hsd : os.data = Data.cell (some (.int side ts))) (hs1 : 1 ≤ side) (hs2 : side ≤ 4) (hmy : many ≤ 5)
    (hsl : (sl, listOf sv.toArray ks) ∈ base) (hσ : AreScans w.params base sv σs) (hg : ∀ σ ∈ σs, Good σ) (hlen : σs.length ≤ 90) (hT : TabO rowP w base od []) (hoff : ∀ p ∈ base, p.1 ≠ d) (hoff2 : ∀ p ∈ base, p.1 ≠ pl) (hdp : @Ne Nat d pl) (lo : (d == sysModules) = false)
    (e1 : tabEq (toldOf σs) (dueAll (upto (side * side).toNat) (upto many)) = true) (e2 : eqP (metOf (σs.map passOf) (σs.map passOf).length) (thin side want0) = true)
    (e3 : eqP (grpOf (σs.map passOf) (σs.map passOf).length) (thin side want0) = true) (e4 : placesOf σs = upto many)
    (hend : ∀ h' tk' m' news', Fr h₀ L h' m' → News h₀ L h' news' → Q (.ret (.bool true)) { s with heap := h', toks := tk' }) :
    RunsAt w L fa c 5 Q s := by
  refine part5 (E := fun _ _ => False) (ex := []) (tl := base) B X T F N hm3 hm4 hc hcd hsl hσ hg hlen hT hoff hoff2 hdp lo ?_
  intro h5 tk5 m5 o5 pv kp5 tl5 F5 k5 N5 off5 T5 P5
  have sub5 : ∀ p ∈ base, p ∈ (d, o5) :: (pl, listOf pv.toArray kp5) :: (tl5 ++ ([] ++ base)) := fun p hp => .tail _ (.tail _ (List.mem_append.mpr (.inr hp)))
  have sub5' : ∀ p ∈ tl5 ++ base, p ∈ (d, o5) :: (pl, listOf pv.toArray kp5) :: (tl5 ++ ([] ++ base)) := fun p hp => .tail _ (.tail _ hp)
  refine part6 (E := fun _ _ => False) (ex := []) (tl := (d, o5) :: (pl, listOf pv.toArray kp5) :: (tl5 ++ ([] ++ base))) B X T F5 N5 ((k5 _ (by decide) (by decide) (by decide)).trans hm5) hmy (sub5 _ hs) hsd hs1 hs2 ?_
  intro h6 tk6 m6 e o6 tl6 F6 v6 k6 N6 offe off6 T6 lo6
  have sub6 : ∀ p ∈ (d, o5) :: (pl, listOf pv.toArray kp5) :: (tl5 ++ ([] ++ base)), p ∈ (e, o6) :: (tl6 ++ ([] ++ ((d, o5) :: (pl, listOf pv.toArray kp5) :: (tl5 ++ ([] ++ base))))) := fun p hp => .tail _ (List.mem_append.mpr (.inr hp))
  have sub6' : ∀ p ∈ tl6 ++ ((d, o5) :: (pl, listOf pv.toArray kp5) :: (tl5 ++ ([] ++ base))), p ∈ (e, o6) :: (tl6 ++ ([] ++ ((d, o5) :: (pl, listOf pv.toArray kp5) :: (tl5 ++ ([] ++ base))))) := fun p hp => .tail _ hp
  have P6 := P5.mono fun p hp => sub6 p (sub5' p (List.mem_append.mpr (.inl hp)))
  have hc6 := sub6 _ (sub5 _ hc)
  have hpl6 : (pl, listOf pv.toArray kp5) ∈ (e, o6) :: (tl6 ++ ([] ++ ((d, o5) :: (pl, listOf pv.toArray kp5) :: (tl5 ++ ([] ++ base))))) := sub6 _ (.tail _ (.head _))
  have hd6 : (d, o5) ∈ (e, o6) :: (tl6 ++ ([] ++ ((d, o5) :: (pl, listOf pv.toArray kp5) :: (tl5 ++ ([] ++ base))))) := sub6 _ (.head _)
  have he6 : (e, o6) ∈ (e, o6) :: (tl6 ++ ([] ++ ((d, o5) :: (pl, listOf pv.toArray kp5) :: (tl5 ++ ([] ++ base))))) := .head _
  have hs6 := sub6 _ (sub5 _ hs)
  have hsl6 := sub6 _ (sub5 _ hsl)
  have hσ6 := hσ.mono fun p hp => sub6 p (sub5 p hp)
  have T5' := T5.mono fun p hp => sub6 p (sub5' p hp)
  have T6' := T6.mono sub6'
  clear sub6 sub6' sub5 sub5' T5 T6 P5 hσ hsl hc hs hoff hoff2 offe off6 off5
  revert T5' T6' hσ6 hsl6 hs6 he6 hd6 hpl6 hc6 P6 N6
  generalize (e, o6) :: (tl6 ++ ([] ++ ((d, o5) :: (pl, listOf pv.toArray kp5) :: (tl5 ++ ([] ++ base))))) = b6
  intro N6 P6 hc6 hpl6 hd6 he6 hs6 hsl6 hσ6 T5 T6
  refine part8 (E := fun _ _ => False) (ex := []) (tl := b6) B X T F6 N6 hc6 hcd hpl6 P6 (P6.len1000 hlen) ?_
  intro h8 tk8 m8 me mv F8 v8 k8 N8 off8 M8
  refine part9 (nw := (me, LCg.lst mv) :: ([] ++ b6)) B X T F8 N8 ?_
  intro h9 tk9 m9 wl wv tl9 F9 v9 k9 N9 off9 W9
  have sub9 : ∀ p ∈ b6, p ∈ (wl, listOf wv.toArray 0) :: (tl9 ++ ((me, LCg.lst mv) :: ([] ++ b6))) := fun p hp => .tail _ (List.mem_append.mpr (.inr (.tail _ hp)))
  have W9' : ArePass ((wl, listOf wv.toArray 0) :: (tl9 ++ ((me, LCg.lst mv) :: ([] ++ b6)))) wv want0 := W9.mono fun p hp => .tail _ (List.mem_append.mpr (.inl hp))
  have hme9 : (me, listOf mv.toArray mv.length) ∈ (wl, listOf wv.toArray 0) :: (tl9 ++ ((me, LCg.lst mv) :: ([] ++ b6))) := .tail _ (List.mem_append.mpr (.inr (.head _)))
  refine part10 (nw := (wl, listOf wv.toArray 0) :: (tl9 ++ ((me, LCg.lst mv) :: ([] ++ b6)))) B X T F9 N9 v9 (.head _) W9' (want0_len W9) (sub9 _ hs6) hsd ?_
  intro h10 tk10 m10 wl' wv' k10' tl10 F10 v10 k10 N10 off10 hw10 W10
  have sub10 : ∀ p ∈ (wl, listOf wv.toArray 0) :: (tl9 ++ ((me, LCg.lst mv) :: ([] ++ b6))), p ∈ tl10 ++ ((wl, listOf wv.toArray 0) :: (tl9 ++ ((me, LCg.lst mv) :: ([] ++ b6)))) := fun p hp => List.mem_append.mpr (.inr hp)
  have W10' := W10.mono sub10
  have hme10 := sub10 _ hme9
  have sub : ∀ p ∈ b6, p ∈ tl10 ++ ((wl, listOf wv.toArray 0) :: (tl9 ++ ((me, LCg.lst mv) :: ([] ++ b6)))) := fun p hp => sub10 p (sub9 p hp)
  clear sub10 sub9 W10 W9' hme9 W9 off10 off9 off8
  revert W10' hme10 sub hw10 N10
  generalize tl10 ++ ((wl, listOf wv.toArray 0) :: (tl9 ++ ((me, LCg.lst mv) :: ([] ++ b6)))) = b10
  intro N10 hw10 W10 hme10 sub
  refine part11 (ex := []) (tl := b10) B X T F10 N10 (sub _ hc6) hcd (sub _ hpl6) (P6.mono sub) (P6.len1000 hlen) ?_
  intro h11 tk11 m11 gl gv F11 v11 k11 N11 off11 G11
  have sub11 : ∀ p ∈ b6, p ∈ (gl, LCg.lst gv) :: ([] ++ b10) := fun p hp => .tail _ (sub p hp)
  refine part12 (ex := []) (tl := (gl, LCg.lst gv) :: ([] ++ b10)) B X T F11 N11 ?_ (sub11 _ hsl6) (hσ6.mono sub11) hg hlen ?_
  · exact (k11 _ (by decide)).trans ((k10 _ (by decide)).trans ((k9 _ (by decide)).trans ((k8 _ (by decide)).trans ((k6 _ (by decide) (by decide) (by decide)).trans ((k5 _ (by decide) (by decide) (by decide)).trans hm4)))))
  intro h12 tk12 m12 pp yv F12 v12 k12 N12 off12 Y12
  have sub12 : ∀ p ∈ b6, p ∈ (pp, LCg.lst yv) :: ([] ++ ((gl, LCg.lst gv) :: ([] ++ b10))) := fun p hp => .tail _ (sub11 p hp)
  have subW : ∀ p ∈ b10, p ∈ (pp, LCg.lst yv) :: ([] ++ ((gl, LCg.lst gv) :: ([] ++ b10))) := fun p hp => .tail _ (.tail _ hp)
  refine part13 (all := (pp, LCg.lst yv) :: ([] ++ ((gl, LCg.lst gv) :: ([] ++ b10)))) (n1 := mv.length) (n3 := gv.length) (n4 := yv.length) (tm := tm) B X T F12 N12 ?_ ?_ ?_ ?_ ?_ v12 ?_ (sub12 _ hd6) (sub12 _ he6) lo lo6 (T5.mono sub12) (T6.mono sub12)
    (subW _ hme10) (subW _ hw10) (.tail _ (.head _)) (.head _) (M8.mono sub12) (W10.mono subW) (G11.mono subW) Y12 e1 e2 e3 e4 hmy hend
  · exact (k12 _ (by decide)).trans ((k11 _ (by decide)).trans ((k10 _ (by decide)).trans ((k9 _ (by decide)).trans ((k8 _ (by decide)).trans ((k6 _ (by decide) (by decide) (by decide)).trans ((k5 _ (by decide) (by decide) (by decide)).trans hm3))))))
  · exact (k12 _ (by decide)).trans ((k11 _ (by decide)).trans ((k10 _ (by decide)).trans ((k9 _ (by decide)).trans ((k8 _ (by decide)).trans v6))))
  · exact (k12 _ (by decide)).trans ((k11 _ (by decide)).trans ((k10 _ (by decide)).trans ((k9 _ (by decide)).trans v8)))
  · exact (k12 _ (by decide)).trans ((k11 _ (by decide)).trans v10)
  · exact (k12 _ (by decide)).trans v11
  · exact (k12 _ (by decide)).trans ((k11 _ (by decide)).trans ((k10 _ (by decide)).trans ((k9 _ (by decide)).trans ((k8 _ (by decide)).trans ((k6 _ (by decide) (by decide) (by decide)).trans ((k5 _ (by decide) (by decide) (by decide)).trans hm5))))))
end Mine

namespace Mine
theorem quietD4 : True := by
  w_top off
  trivial
open PySem PySem.W PyProof.Rows PySem.Spec PySem.Calls
set_option Elab.async false
set_option maxRecDepth 100000
set_option maxHeartbeats 1000000
noncomputable def Loose (o : Obj) : Prop := (o = listOf #[] 0) ∨ (∃ es ep, o.data = .dict es ep ∧ es.toList = []) ∨ ∃ v, o.data = .cell v
theorem inst_firm {C d : Addr} : ¬ Loose (instObj C d) := by
  rintro (h | ⟨es, ep, h, _⟩ | ⟨v, h⟩)
  · have := congrArg Obj.data h
    exact nomatch this
  · exact nomatch h
  · exact nomatch h
theorem dict_firm {e : DictEntry} {r : List DictEntry} {n : Nat} : ¬ Loose (dictOf (e :: r) n) := by
  rintro (h | ⟨es, ep, h, h2⟩ | ⟨v, h⟩)
  · have := congrArg Obj.data h
    exact nomatch this
  · have h3 : Data.dict (List.toArray (e :: r)) n = Data.dict es ep := h
    injection h3 with h4 _
    rw [← h4] at h2
    exact nomatch h2
  · exact nomatch h
theorem list_firm {vs : List Value} {n : Nat} (hv : vs ≠ []) : ¬ Loose (listOf vs.toArray n) := by
  rintro (h | ⟨es, ep, h, _⟩ | ⟨v, h⟩)
  · have h3 : Data.seq vs.toArray n = Data.seq #[] 0 := congrArg Obj.data h
    injection h3 with h4 _
    exact hv (by simpa using h4)
  · exact nomatch h
  · exact nomatch h
theorem ScanIn.firm {P : Params} {all base : List (Addr × Obj)} {r : Addr} {σ : Sc} (hs : ∀ p ∈ all, p ∈ base ∨ Loose p.2) (hne : σ.ps ≠ []) (h : ScanIn P all r σ) : ScanIn P base r σ := by
  obtain ⟨d, lp, l1, l2, vp, v1, v2, np, n1, n2, nd, k1, k2, k3, k4, k5, k6, k7, ta, tb, tc, td, a, b, c, e, f, i1, i2, i3⟩ := h
  have e1 : vp ≠ [] := fun q => hne (by have := i1.length; rw [q] at this; exact List.length_eq_zero_iff.mp this.symm)
  have e2 : v1 ≠ [] := fun q => hne (by have := i2.length; rw [q, List.length_map] at this; exact List.length_eq_zero_iff.mp this.symm)
  have e3 : v2 ≠ [] := fun q => hne (by have := i3.length; rw [q, List.length_map] at this; exact List.length_eq_zero_iff.mp this.symm)
  exact ⟨d, lp, l1, l2, vp, v1, v2, np, n1, n2, nd, k1, k2, k3, k4, k5, k6, k7, ta, tb, tc, td, (hs _ a).resolve_right inst_firm, (hs _ b).resolve_right dict_firm, (hs _ c).resolve_right (list_firm e1), (hs _ e).resolve_right (list_firm e2), (hs _ f).resolve_right (list_firm e3), i1, i2, i3⟩
theorem AreScans.firm {P : Params} {all base : List (Addr × Obj)} (hs : ∀ p ∈ all, p ∈ base ∨ Loose p.2) : ∀ {vs : List Value} {σs : List Sc}, (∀ σ ∈ σs, σ.ps ≠ []) → AreScans P all vs σs → AreScans P base vs σs
  | _, _, _, Paired.nil => .nil
  | _, _, hne, Paired.cons ⟨_, rfl, a⟩ t => .cons (a.firm hs (hne _ (.head _))) (AreScans.firm hs (fun σ h => hne σ (.tail _ h)) t)
noncomputable def fullB (m s : Nat) : Bool := !(scsOf m s).isEmpty && (scsOf m s).all fun σ => !σ.ps.isEmpty
theorem full_ok : (([1, 2, 3, 4, 5] : List Nat).all fun m => ([1, 2, 3, 4] : List Nat).all fun s => fullB m s) = true := by decide +kernel
theorem five {m : Nat} (h1 : 1 ≤ m) (h2 : m ≤ 5) : m ∈ ([1, 2, 3, 4, 5] : List Nat) := by
  have h : m = 1 ∨ m = 2 ∨ m = 3 ∨ m = 4 ∨ m = 5 := by omega
  rcases h with rfl | rfl | rfl | rfl | rfl <;> simp
theorem four {s : Nat} (h1 : 1 ≤ s) (h2 : s ≤ 4) : s ∈ ([1, 2, 3, 4] : List Nat) := by
  have h : s = 1 ∨ s = 2 ∨ s = 3 ∨ s = 4 := by omega
  rcases h with rfl | rfl | rfl | rfl <;> simp
theorem full_of {m : Nat} {side : Int} (h1 : 1 ≤ m) (h2 : m ≤ 5) (h3 : 1 ≤ side) (h4 : side ≤ 4) : plainOut m side ≠ [] ∧ ∀ σ ∈ plainOut m side, σ.ps ≠ [] := by
  obtain ⟨s, rfl⟩ : ∃ s : Nat, side = (s : Int) := ⟨side.toNat, by omega⟩
  have h := full_ok
  rw [List.all_eq_true] at h
  have h := h m (five h1 h2)
  rw [List.all_eq_true] at h
  have h := h s (four (by omega) (by omega))
  simp only [fullB, scsOf, Bool.and_eq_true, Bool.not_eq_true', List.isEmpty_eq_false_iff, List.all_eq_true] at h
  exact h
end Mine

namespace Mine
theorem quietT17 : True := by
  w_top off
  trivial
open PySem PySem.W PyProof.Rows PySem.Spec PySem.Calls
set_option Elab.async false
set_option maxRecDepth 100000
set_option maxHeartbeats 1000000
theorem cell_set {M : Model} {A : Around} {E : Value → Shared → Prop} {s : Shared} {h₀ : Heap} {L c : Addr} {m : Str → Option Value} {env : Env} {x : Str} {v : Value} {o : Obj} {v₀ : Option Value} {all : List (Addr × Obj)} {Q : Unit → Shared → Prop}
    (F : Fr h₀ L s.heap m) (N : News h₀ L s.heap ((c, o) :: all)) (hoff : ∀ p ∈ all, p.1 ≠ c) (hd : o.data = .cell v₀)
    (h : ∀ h' o', Fr h₀ L h' m → News h₀ L h' ((c, o') :: all) → o'.data = .cell (some v) → Q () { s with heap := h' })
    (hk : env.scope.kind = .function) (hx : env.kindOf x = some .cell) (hc : env.cells.lookup x = some c) : wpAny M A (storeName env x v) Q E s := by
  have hmem := N (c, o) (.head _)
  refine wpAny_storeName_cell hk hx hc ⟨o, hmem.1, hd⟩ fun h' hv hs => ?_
  obtain ⟨o', ho', hd'⟩ := hv
  refine h h' o' (F.change hs hmem.2.1 hmem.2.2) (fun p hp => ?_) hd'
  rcases List.mem_cons.mp hp with rfl | hp
  · exact ⟨ho', hmem.2⟩
  · exact ⟨hs.extBut _ _ (hoff p hp) (N p (.tail _ hp)).1, (N p (.tail _ hp)).2⟩
theorem toCell {h₀ h : Heap} {L : Addr} {x y z cc : Addr × Obj} {t l : List (Addr × Obj)} (N : News h₀ L h (x :: (t ++ y :: z :: cc :: l))) : News h₀ L h (cc :: (x :: (t ++ y :: z :: l))) :=
  reorder N (by (repeat' first | refine sub_a ?_ ?_ | refine sub_c ?_ ?_) <;> first | exact no_mem | kn_among | (intro q hq; kn_among))
theorem offCell {x y z : Addr × Obj} {c : Addr} {o : Obj} {t l : List (Addr × Obj)} (hx : ∀ p ∈ t ++ y :: z :: (c, o) :: l, p.1 < x.1) (ht : TbOff t (y :: z :: (c, o) :: l)) (hy : c < y.1) (hz : c < z.1) (hl : ∀ p ∈ l, p.1 ≠ c) : ∀ p ∈ x :: (t ++ y :: z :: l), p.1 ≠ c := by
  intro p hp
  simp only [List.mem_cons, List.mem_append] at hp
  rcases hp with rfl | h | rfl | rfl | h
  · exact Nat.ne_of_gt (hx (c, o) (List.mem_append.mpr (.inr (.tail _ (.tail _ (.head _))))))
  · exact ht p h (c, o) (.tail _ (.tail _ (.head _)))
  · exact Nat.ne_of_gt hy
  · exact Nat.ne_of_gt hz
  · exact hl p h
theorem loose_dict {prog : Program} {w : World} {o : Obj} (hd : o.IsDictOf (intKind prog w) []) : Loose o := by
  obtain ⟨es, ep, _, hdat, _, hp, _⟩ := hd
  exact .inr (.inl ⟨es, ep, hdat, List.length_eq_zero_iff.mp hp.length⟩)
theorem toBase {h₀ h : Heap} {L : Addr} {x y z cc : Addr × Obj} {t l : List (Addr × Obj)} (N : News h₀ L h (cc :: (x :: (t ++ y :: z :: l)))) : News h₀ L h (z :: y :: (cc :: x :: (t ++ l))) :=
  reorder N (by (repeat' first | refine sub_a ?_ ?_ | refine sub_c ?_ ?_) <;> first | exact no_mem | kn_among | (intro q hq; kn_among))
theorem offBase {x y z w : Addr × Obj} {c : Addr} {o o7 : Obj} {t l : List (Addr × Obj)} (hw : w ∈ y :: z :: (c, o) :: l) (hx : ∀ p ∈ t ++ y :: z :: (c, o) :: l, p.1 < x.1) (ht : TbOff t (y :: z :: (c, o) :: l)) (hc : c < w.1) (hl : AllLt w.1 l) : ∀ p ∈ (c, o7) :: x :: (t ++ l), p.1 ≠ w.1 := by
  intro p hp
  simp only [List.mem_cons, List.mem_append] at hp
  rcases hp with rfl | rfl | h | h
  · exact Nat.ne_of_lt hc
  · exact Nat.ne_of_gt (hx w (List.mem_append.mpr (.inr hw)))
  · exact ht p h w hw
  · exact Ne.symm (ne_of_allLt hl p h)
theorem looseBase {x : Addr × Obj} {l' d' c : Addr} {o' o o7 : Obj} {t l : List (Addr × Obj)} (h1 : Loose o') {v : Option Value} (h2 : o.data = .cell v) : ∀ p ∈ t ++ (l', listOf #[] 0) :: (d', o') :: (c, o) :: l, p ∈ (c, o7) :: x :: (t ++ l) ∨ Loose p.2 := by
  intro p hp
  rcases List.mem_append.mp hp with h | h
  · exact .inl (.tail _ (.tail _ (List.mem_append.mpr (.inl h))))
  · rcases List.mem_cons.mp h with rfl | h
    · exact .inr (.inl rfl)
    · rcases List.mem_cons.mp h with rfl | h
      · exact .inr h1
      · rcases List.mem_cons.mp h with rfl | h
        · exact .inr (.inr (.inr ⟨v, h2⟩))
        · exact .inl (.tail _ (.tail _ (List.mem_append.mpr (.inr h))))
theorem scans_ne {P : Params} {all : List (Addr × Obj)} {vs : List Value} {σs : List Sc} (h : AreScans P all vs σs) (hne : σs ≠ []) : vs ≠ [] := fun q => hne (by have := h.length; rw [q] at this; exact List.length_eq_zero_iff.mp this.symm)
theorem part4 {w : World} {mean : ExcName → Option Value} {mg mb : Str → Option Value} {h₀ : Heap} {L fa : Addr} {c : Value} {m : Str → Option Value} {s : Shared} {Q : Flow → Shared → Prop}
    {nw : List (Addr × Obj)} {fr : Addr} {cps : List Cp} {side : Int} {oc : Obj} {x : Option Value}
    (B : Below callerA h₀ [] h₀) (X : (hd.heap_39 w.params).In h₀) (T : Top hd.view_39 (looseW hd.view_39 []) mean mg mb h₀) (F : Fr h₀ L s.heap m) (N : News h₀ L s.heap ((L + 1 + 1 + 1 + 1, oc) :: nw))
    (hm1 : m (Str.ofString "frame") = some (.ref fr)) (hcd : oc.data = Data.cell x) (hoffc : ∀ p ∈ nw, p.1 ≠ L + 1 + 1 + 1 + 1)
    (hF : FrameIn w.params nw fr cps side) (hc1 : 1 ≤ cps.length) (hc2 : cps.length ≤ 5) (hs1 : 1 ≤ side) (hs2 : side ≤ 4)
    (next : ∀ h' tk' m' d od pl kp sl sv ks base oc', Fr h₀ L h' m' → m' (Str.ofString "told") = some (.ref d) → m' (Str.ofString "scans") = some (.ref sl) → (∀ z, z ≠ Str.ofString "told" → z ≠ Str.ofString "scans" → m' z = m z) →
      News h₀ L h' ((d, od) :: (pl, listOf #[] kp) :: base) → (∀ p ∈ base, p.1 ≠ d) → (∀ p ∈ base, p.1 ≠ pl) → (@Ne Nat d pl) → (d == sysModules) = false → TabO rowP w base od [] → (L + 1 + 1 + 1 + 1, oc') ∈ base → oc'.data = Data.cell (some (.ref pl)) → (∀ p ∈ nw, p ∈ base) →
      (sl, listOf (List.toArray sv) ks) ∈ base → AreScans w.params base sv (plainOut cps.length side) → RunsAt w L fa c 5 Q { s with heap := h', toks := tk' }) :
    RunsAt w L fa c 4 Q s := by
  refine ⟨?_⟩
  dsimp only [lawScope, lawBody, lawScopeS, lawBodyS, rowP, lawA, lawEnv, List.drop]
  have hps : ∀ q ∈ [(Str.ofString "frame", Value.ref fr)], m q.1 = some q.2 := by
    intro q hq
    simp only [List.mem_cons, List.not_mem_nil, or_false] at hq
    rcases hq with rfl; assumption
  have F0 := fr_kst _ F hps
  clear F
  k_with_none
  have X0 := X
  revert X; k_fill; intro X
  k_with "execs!" => k_dflt (
    with_reducible show wpAny _ _ (execs [_, _, _, _, _, _, _, _, _] _) _ _ _
    with_reducible rename Fr _ _ _ _ => F9
    with_reducible rename News _ _ _ _ => N9
    with_reducible rename Obj.IsDictOf (intKind _ _) _ [] => hi9
    with_reducible rename ((_ == sysModules) = false) => lo9
    have hf := full_of hc1 hc2 hs1 hs2
    refine RunsAt.use (k := 5) ?z1 ?z2
    case z1 => exact rfl
    refine next _ _ _ _ _ _ _ r9 vs9 k9 _ _ F9 ?w1 ?w2 ?w3 (toBase N9) ?w4 ?w5 ?w6 lo9 (.empty hi9) (.head _) hd7 ?w7 ?w8 ?w9
    case w1 => exact rfl
    case w2 => exact rfl
    case w3 => exact fun z hz hz2 => (if_neg hz2).trans ((if_neg hz).trans (kstB_eq hps fun _ => rfl))
    case w4 => exact offBase (.tail _ (.head _)) q3 ho9 q1.1 q1.2
    case w5 => exact offBase (.head _) q3 ho9 q2.2.1 q2.2.2
    case w6 => exact Nat.ne_of_lt q2.1
    case w7 => exact fun p hp => .tail _ (.tail _ (List.mem_append.mpr (.inr hp)))
    case w8 => exact (looseBase (loose_dict hi9) hcd _ hm9).resolve_right (list_firm (scans_ne hs9 hf.1))
    case w9 => exact hs9.firm (looseBase (loose_dict hi9) hcd) hf.2)
  k_with "store!" => k_dflt (
    (with_reducible show wpAny _ _ (storeName _ (Str.ofString "passes") _) _ _ _)
    with_reducible rename News _ _ _ _ => N8
    with_reducible rename Fr _ _ _ _ => F8
    rename (_ < _ ∧ AllLt _ nw) => q1
    rename (_ < _ ∧ _ < _ ∧ AllLt _ nw) => q2
    rename (∀ p ∈ tl9 ++ _, _ < _) => q3
    refine' cell_set F8 (toCell N8) (offCell q3 ho9 q2.2.1 q1.1 hoffc) hcd ?_ ?y1 ?y2 ?y3
    case y1 => exact rfl
    case y2 => exact rfl
    case y3 => exact rfl
    intro h7 o7 F7 N7 hd7
    try dsimp only)
  k_with "call ref!" => k_dflt (
    refine' Step.use ?k1 ?k2 ?k3 ?k4 ?k5 ?kK (plain_step (cps := cps) (side := side) ?kF hc1 hc2 hs1 hs2) ?kd ?ku ?_
    case k1 => k_asm
    case k2 => k_asm
    case k3 => k_in
    case k4 => k_asm
    case k5 => k_asm
    case kK => first | exact rfl | assumption
    case kF => exact hF.mono (fun p hp => by k_mem)
    case kd => ktr_room
    case ku => ktr_units
    intro v9 n9 h9 tk9 hp9 F9 N9
    obtain ⟨r9, vs9, k9, rfl, ⟨tl9, rfl, ho9⟩, hm9, hs9⟩ := hp9
    try dsimp only
    try k_fold)
  k_steps
end Mine

namespace Mine
theorem quietT18 : True := by
  w_top off
  trivial
open PySem PySem.W PyProof.Rows PySem.Spec PySem.Calls
set_option Elab.async false
set_option maxRecDepth 100000
set_option maxHeartbeats 1000000
theorem frame_news {h₀ h : Heap} {L : Addr} {y : Addr × Obj} {a b l : List (Addr × Obj)} (N : News h₀ L h (a ++ y :: (b ++ l))) : News h₀ L h ((a ++ y :: b) ++ l) :=
  reorder N (by (repeat' first | refine sub_a ?_ ?_ | refine sub_c ?_ ?_) <;> first | exact no_mem | kn_among | (intro q hq; kn_among))
theorem frame_off {d : Addr} {o : Obj} {a b l : List (Addr × Obj)} (h1 : TbOff a ((d, o) :: (b ++ l))) (h2 : LCg.Off1 d (b ++ l)) (h3 : TbOff b l) : TbOff (a ++ (d, o) :: b) l := by
  intro p hp q hq
  rcases List.mem_append.mp hp with h | h
  · exact h1 p h q (.tail _ (List.mem_append.mpr (.inr hq)))
  · rcases List.mem_cons.mp h with rfl | h
    · exact ne_of_off1 h2 q (List.mem_append.mpr (.inr hq))
    · exact h3 p h q hq
theorem frame_in {P : Params} {fr fd d : Addr} {a b l : List (Addr × Obj)} {cps : List Cp} {side : Int} {k1 k2 k3 k4 k5 k6 t1 t2 t3 t4 t6 : Tok} {n m : Nat} (h1 : (fr, instObj 182 fd) ∈ a)
    (h2 : (fd, dictOf [ent P (Str.ofString "kind") k1 (.str (Str.ofString "progressive") t1), ent P (Str.ofString "precision") k2 (.int 8 t2), ent P (Str.ofString "height") k3 (.int 9 t3), ent P (Str.ofString "width") k4 (.int 9 t4),
      ent P (Str.ofString "components") k5 (.ref d), ent P (Str.ofString "n") k6 (.int side t6)] n) ∈ a)
    (h3 : ∀ q ∈ cps, CompIn P (b ++ l) q ∧ 1 ≤ q.a ∧ q.a ≤ 2 ∧ 1 ≤ q.b ∧ q.b ≤ 2 ∧ q.a * q.b ≤ 2) : FrameIn P ((a ++ (d, listOf (cps.map fun q => Value.ref q.c).toArray m) :: b) ++ l) fr cps side := by
  have sa : ∀ p ∈ a, p ∈ (a ++ (d, listOf (cps.map fun q => Value.ref q.c).toArray m) :: b) ++ l := fun p hp => List.mem_append.mpr (.inl (List.mem_append.mpr (.inl hp)))
  refine ⟨fd, d, k1, k2, k3, k4, k5, k6, t1, t2, t3, t4, t6, n, m, sa _ h1, sa _ h2, List.mem_append.mpr (.inl (List.mem_append.mpr (.inr (.head _)))), fun q hq => (h3 q hq).1.mono fun p hp => ?_, fun q hq => (h3 q hq).2⟩
  rcases List.mem_append.mp hp with h | h
  · exact List.mem_append.mpr (.inl (List.mem_append.mpr (.inr (.tail _ h))))
  · exact List.mem_append.mpr (.inr h)
noncomputable def CpsAre (P : Params) (news : List (Addr × Obj)) (ys : List Value) (i : Nat) : Prop :=
  ∃ cps : List Cp, ys = cps.map (fun q => .ref q.c) ∧ cps.length = i ∧ ∀ q ∈ cps, CompIn P news q ∧ 1 ≤ q.a ∧ q.a ≤ 2 ∧ 1 ≤ q.b ∧ q.b ≤ 2 ∧ q.a * q.b ≤ 2
theorem cps_zero {P : Params} {news : List (Addr × Obj)} : CpsAre P news [] 0 := ⟨[], rfl, rfl, fun _ h => nomatch h⟩
theorem cps_next {P : Params} {news tl : List (Addr × Obj)} {ys : List Value} {i : Nat} {q : Cp} (h : CpsAre P news ys i) (hc : CompIn P tl q) (hb : 1 ≤ q.a ∧ q.a ≤ 2 ∧ 1 ≤ q.b ∧ q.b ≤ 2 ∧ q.a * q.b ≤ 2) : CpsAre P (tl ++ news) (ys ++ [.ref q.c]) (i + 1) := by
  obtain ⟨cps, rfl, hl, hq⟩ := h
  refine ⟨cps ++ [q], by simp, by simp [hl], fun x hx => ?_⟩
  rcases List.mem_append.mp hx with h | h
  · exact ⟨(hq x h).1.mono sub_app, (hq x h).2⟩
  · rw [List.mem_singleton.mp h]; exact ⟨hc.mono (fun p hp => List.mem_append.mpr (.inl hp)), hb⟩
section
variable {prog : Program} {w : World} {A : Around} {E : Value → Shared → Prop} {s : Shared} {h₀ : Heap} {L : Addr} {news : List (Addr × Obj)} {value slice : Expr} {l : Addr} {p q : Int} {t z u : Tok} {Q : Value → Shared → Prop}
theorem tup2_0 (N : News h₀ L s.heap news) (hm : (l, tup2 p q t z) ∈ news) (h : Q (.int p t) s)
    (hs : subscripted slice false (.ref l) (.int 0 u) = operate [.ref l, .int 0 u] (getItem (.ref l) (.int 0 u)) := by with_unfolding_all rfl) :
    wpAny (model prog w) A (subscriptTail value slice (.ref l) (.int 0 u)) Q E s :=
  have ht : IsTup s.heap l #[.int p t, .int q z] := ⟨_, N.get hm, rfl, _, rfl⟩
  tail_any ht.typeIs slot_tuple_getitem.lookup (PyProof.Rows.getItem_tuple ht (by decide) (by decide) (j := 0) rfl rfl h) hs
theorem tup2_1 (N : News h₀ L s.heap news) (hm : (l, tup2 p q t z) ∈ news) (h : Q (.int q z) s)
    (hs : subscripted slice false (.ref l) (.int 1 u) = operate [.ref l, .int 1 u] (getItem (.ref l) (.int 1 u)) := by with_unfolding_all rfl) :
    wpAny (model prog w) A (subscriptTail value slice (.ref l) (.int 1 u)) Q E s :=
  have ht : IsTup s.heap l #[.int p t, .int q z] := ⟨_, N.get hm, rfl, _, rfl⟩
  tail_any ht.typeIs slot_tuple_getitem.lookup (PyProof.Rows.getItem_tuple ht (by decide) (by decide) (j := 1) rfl rfl h) hs
end
theorem part3 {w : World} {mean : ExcName → Option Value} {mg mb : Str → Option Value} {h₀ : Heap} {L fa : Addr} {c : Value} {m : Str → Option Value} {s : Shared} {Q : Flow → Shared → Prop}
    {nw : List (Addr × Obj)} {side : Int} {os oS : Obj} {sd : Addr} {sv : List Value} {ks many : Nat} {qs : List (Int × Int)} {tm ts : Tok}
    (B : Below callerA h₀ [] h₀) (X : (hd.heap_39 w.params).In h₀) (T : Top hd.view_39 (looseW hd.view_39 []) mean mg mb h₀) (F : Fr h₀ L s.heap m) (N : News h₀ L s.heap nw)
    (hm1 : m (Str.ofString "many") = some (.int (many : Int) tm)) (hmy : many ≤ 5) (hc2 : (L + 1 + 1, os) ∈ nw) (hd2 : os.data = Data.cell (some (.int side ts))) (hc3 : (L + 1 + 1 + 1, oS) ∈ nw) (hd3 : oS.data = Data.cell (some (.ref sd)))
    (hsd : (sd, listOf sv.toArray ks) ∈ nw) (hP : ArePairs nw sv qs) (hL : qs.length = many) (hB : ∀ q ∈ qs, 1 ≤ q.1 ∧ q.1 ≤ 2 ∧ 1 ≤ q.2 ∧ q.2 ≤ 2 ∧ q.1 * q.2 ≤ 2)
    (next : ∀ h' tk' m' fr cps tl', Fr h₀ L h' m' → m' (Str.ofString "frame") = some (.ref fr) → (∀ z, z ≠ Str.ofString "frame" → m' z = m z) → News h₀ L h' (tl' ++ nw) → TbOff tl' nw → FrameIn w.params (tl' ++ nw) fr cps side → cps.length = many →
      RunsAt w L fa c 4 Q { s with heap := h', toks := tk' }) :
    RunsAt w L fa c 3 Q s := by
  refine ⟨?_⟩
  dsimp only [lawScope, lawBody, lawScopeS, lawBodyS, rowP, lawA, lawEnv, List.drop]
  have hps : ∀ q ∈ [(Str.ofString "many", Value.int (many : Int) tm)], m q.1 = some q.2 := by
    intro q hq
    simp only [List.mem_cons, List.not_mem_nil, or_false] at hq
    rcases hq with rfl; assumption
  have F0 := fr_kst _ F hps
  clear F
  k_with_none
  have X0 := X
  revert X; k_fill; intro X
  k_with "execs!" => k_dflt (
    with_reducible show wpAny _ _ (execs [_, _, _, _, _, _, _, _, _, _] _) _ _ _
    with_reducible rename News _ _ _ _ => N9
    with_reducible rename Fr _ _ _ _ => F9
    with_reducible rename LCg.Off1 _ _ => o9
    obtain ⟨cps, rfl, hlc, hcq⟩ := hs8
    refine RunsAt.use (k := 4) ?z1 ?z2
    case z1 => exact rfl
    refine next _ _ _ fr9 cps (tlf ++ (_, _) :: tl8) F9 ?w1 ?w2 (frame_news N9) ?w4 ?w5 hlc
    case w1 => exact rfl
    case w2 => exact fun z hz => (if_neg hz).trans (kstB_eq hps fun _ => rfl)
    case w4 => exact frame_off hof o9 ht8
    case w5 => exact frame_in hf1 hf2 hcq)
  k_with "eval ListComp!" => k_dflt (refine LCg.ListComp_U (F₀ := by k_asm) (by with_unfolding_all rfl) (by decide) (by rfl) (by decide) (by rfl) ?_)
  k_with "CompSrc!" => k_dflt (
    refine' LCg.CompSrc.range (n := many) ?e1 ?e2 ?e3 ?e4 ?e5 ?e6 ?e7 ?_
    case e1 => rfl
    case e2 => k_asm
    case e3 => k_asm
    case e4 => with_reducible assumption
    case e5 => exact small_one (by omega) (by omega) (by omega) (by omega)
    case e6 => exact (rangeSize_nat _ _).trans (by rw [Int.sub_zero]; rfl)
    case e7 => (rw [PySem.sizeLine_eq]; omega)
    intro g'
    refine' rest_inv (fun i ys nw' => Ext nw nw' ∧ CpsAre w.params nw' ys i) ⟨.nil, cps_zero⟩ (fun i ys nw' v I' oI' C' oC' D' m' h' tk' E' hi' hv hJ hC' hx' F' N' off' ne' => ?turn2) (fun ys nw' hJ => ?fin2)
    case' turn2 =>
      obtain ⟨⟨tl8, rfl, ht8⟩, hs8⟩ := hJ
      obtain ⟨t, rfl⟩ := hv
      obtain ⟨a8, p8, q8, t8, u8, hx8, hm8, hq8⟩ := hP.at (i := i) (by omega)
      have hb8 := hB _ (List.mem_of_getElem? hq8)
      clear ne'
    case' fin2 =>
      obtain ⟨⟨tl8, rfl, ht8⟩, hs8⟩ := hJ
    all_goals (try k_fold))

  k_with "item!" => k_dflt (
    with_reducible show wpAny _ _ (subscriptTail _ _ (Value.ref sd) (Value.int _ _)) _ _ _
    refine' item_ref (v := a8) ?y1 ?y2 ?lo ?hi ?hx ?_
    case y1 => k_asm
    case y2 => k_mem
    case lo => omega
    case hi => omega
    case hx =>
      rw [show ((0 : Int) + (i : Int)).toNat = i by omega, List.getElem?_toArray]
      exact hx8
    try dsimp only)
  k_with "item!" => k_dflt (
    with_reducible show wpAny _ _ (subscriptTail _ _ (Value.ref a8) (Value.int 0 _)) _ _ _
    refine' tup2_0 (p := p8) (q := q8) (t := t8) (z := u8) ?y1 ?y2 ?_
    case y1 => k_asm
    case y2 => k_mem
    try dsimp only)
  k_with "item!" => k_dflt (
    with_reducible show wpAny _ _ (subscriptTail _ _ (Value.ref a8) (Value.int 1 _)) _ _ _
    refine' tup2_1 (p := p8) (q := q8) (t := t8) (z := u8) ?y1 ?y2 ?_
    case y1 => k_asm
    case y2 => k_mem
    try dsimp only)
  k_with "call ref!" => k_dflt (
    refine' Step.use ?k1 ?k2 ?k3 ?k4 ?k5 ?kK frame_step ?kd ?ku ?_
    case k1 => k_asm
    case k2 => k_asm
    case k3 => k_in
    case k4 => k_asm
    case k5 => k_asm
    case kK => first | exact rfl | assumption
    case kd => ktr_room
    case ku => ktr_units
    intro v9 n9 h9 tk9 hp9 F9 N9
    obtain ⟨fr9, fd9, tlf, k1', k2', k3', k4', k5', k6', u1', u2', u3', u4', u6', nf', rfl, rfl, hof, hf1, hf2⟩ := hp9
    try dsimp only
    try k_fold)
  k_with "call ref!" => k_dflt (
    refine' Step.use ?k1 ?k2 ?k3 ?k4 ?k5 ?kK comp_step ?kd ?ku ?_
    case k1 => k_asm
    case k2 => k_asm
    case k3 => k_in
    case k4 => k_asm
    case k5 => k_asm
    case kK => first | exact rfl | assumption
    case kd => ktr_room
    case ku => ktr_units
    intro v9 n9 h9 tk9 hp9 F9 N9
    obtain ⟨q9, tl9, rfl, hqa9, hqb9, rfl, ho9, hc9⟩ := hp9
    try dsimp only
    try k_fold)
  k_with "CompEnd!" => k_dflt (
    exact comp_end0 F9 N9 off' ho9 trivial ⟨.app (off_right ho9 (by (repeat' first | refine sub_a ?_ ?_ | refine sub_c ?_ ?_) <;> first | exact no_mem | kn_among | (intro q hq; kn_among))) (.app ht8 .nil), cps_next hs8 hc9 (by rw [hqa9, hqb9]; exact hb8)⟩)
  k_steps
end Mine

namespace Mine
theorem quietT19 : True := by
  w_top off
  trivial
open PySem PySem.W PyProof.Rows PySem.Spec PySem.Calls
set_option Elab.async false
set_option maxRecDepth 100000
set_option maxHeartbeats 1000000
theorem plain_facts {m : Nat} {side : Int} (h1 : 1 ≤ m) (h2 : m ≤ 5) (h3 : 1 ≤ side) (h4 : side ≤ 4) :
    (∀ σ ∈ plainOut m side, Good σ) ∧ (plainOut m side).length ≤ 90 ∧ tabEq (toldOf (plainOut m side)) (dueAll (upto (side * side).toNat) (upto m)) = true ∧
    eqP (metOf ((plainOut m side).map passOf) ((plainOut m side).map passOf).length) (thin side want0) = true ∧ eqP (grpOf ((plainOut m side).map passOf) ((plainOut m side).map passOf).length) (thin side want0) = true ∧ placesOf (plainOut m side) = upto m := by
  obtain ⟨s, rfl⟩ : ∃ s : Nat, side = (s : Int) := ⟨side.toNat, by omega⟩
  have h := all_ok
  rw [List.all_eq_true] at h
  have h := h m (five h1 h2)
  rw [List.all_eq_true] at h
  have h := h s (four (by omega) (by omega))
  simp only [check, scsOf, Bool.and_eq_true, List.all_eq_true, decide_eq_true_eq] at h
  obtain ⟨⟨⟨⟨⟨a, b⟩, c⟩, d⟩, e⟩, f⟩ := h
  exact ⟨fun σ hσ => good_of (a σ hσ), of_decide_eq_true b, c, d, e, of_decide_eq_true f⟩
theorem CompIn.firm {P : Params} {all base : List (Addr × Obj)} {q : Cp} (hs : ∀ p ∈ all, p ∈ base ∨ Loose p.2) (h : CompIn P all q) : CompIn P base q := by
  obtain ⟨i, k1, k2, k3, k4, t1, t2, t3, t4, n, a, b⟩ := h
  exact ⟨i, k1, k2, k3, k4, t1, t2, t3, t4, n, (hs _ a).resolve_right inst_firm, (hs _ b).resolve_right dict_firm⟩
theorem FrameIn.firm {P : Params} {all base : List (Addr × Obj)} {fr : Addr} {cps : List Cp} {side : Int} (hs : ∀ p ∈ all, p ∈ base ∨ Loose p.2) (hne : 1 ≤ cps.length) (h : FrameIn P all fr cps side) : FrameIn P base fr cps side := by
  obtain ⟨fd, cl, k1, k2, k3, k4, k5, k6, t1, t2, t3, t4, t6, n, m, a, b, c, d, e⟩ := h
  have hl : (cps.map fun q => Value.ref q.c) ≠ [] := fun q => by
    have := congrArg List.length q
    rw [List.length_map, List.length_nil] at this
    omega
  exact ⟨fd, cl, k1, k2, k3, k4, k5, k6, t1, t2, t3, t4, t6, n, m, (hs _ a).resolve_right inst_firm, (hs _ b).resolve_right dict_firm, (hs _ c).resolve_right (list_firm hl), fun q hq => (d q hq).firm hs, e⟩
theorem tail3 {w : World} {mean : ExcName → Option Value} {mg mb : Str → Option Value} {h₀ : Heap} {L fa : Addr} {c : Value} {m : Str → Option Value} {s : Shared} {Q : Flow → Shared → Prop}
    {nw : List (Addr × Obj)} {side : Int} {os oS oc : Obj} {sd : Addr} {sv : List Value} {ks many : Nat} {qs : List (Int × Int)} {tm ts : Tok} {x : Option Value}
    (B : Below callerA h₀ [] h₀) (X : (hd.heap_39 w.params).In h₀) (T : Top hd.view_39 (looseW hd.view_39 []) mean mg mb h₀) (F : Fr h₀ L s.heap m) (N : News h₀ L s.heap ((L + 1 + 1 + 1 + 1, oc) :: nw)) (hcd : oc.data = Data.cell x) (hoffc : ∀ p ∈ nw, p.1 ≠ L + 1 + 1 + 1 + 1)
    (hm1 : m (Str.ofString "many") = some (.int (many : Int) tm)) (hmy : many ≤ 5) (hmy1 : 1 ≤ many) (hs1 : 1 ≤ side) (hs2 : side ≤ 4) (hc2 : (L + 1 + 1, os) ∈ nw) (hd2 : os.data = Data.cell (some (.int side ts))) (hc3 : (L + 1 + 1 + 1, oS) ∈ nw) (hd3 : oS.data = Data.cell (some (.ref sd)))
    (hsd : (sd, listOf sv.toArray ks) ∈ nw) (hP : ArePairs nw sv qs) (hL : qs.length = many) (hB : ∀ q ∈ qs, 1 ≤ q.1 ∧ q.1 ≤ 2 ∧ 1 ≤ q.2 ∧ q.2 ≤ 2 ∧ q.1 * q.2 ≤ 2)
    (hend : ∀ h' tk' m' news', Fr h₀ L h' m' → News h₀ L h' news' → Q (.ret (.bool true)) { s with heap := h', toks := tk' }) :
    RunsAt w L fa c 3 Q s := by
  refine part3 (nw := (L + 1 + 1 + 1 + 1, oc) :: nw) B X T F N hm1 hmy (.tail _ hc2) hd2 (.tail _ hc3) hd3 (.tail _ hsd) (hP.mono sub_cons) hL hB ?_
  intro h3 tk3 m3 fr cps tl F3 v3 k3 N3 off3 hF hlc
  have N3' : News h₀ L h3 ((L + 1 + 1 + 1 + 1, oc) :: (tl ++ nw)) := reorder N3 (by (repeat' first | refine sub_a ?_ ?_ | refine sub_c ?_ ?_) <;> first | exact no_mem | kn_among | (intro q hq; kn_among))
  have loose : ∀ p ∈ tl ++ (L + 1 + 1 + 1 + 1, oc) :: nw, p ∈ tl ++ nw ∨ Loose p.2 := by
    intro p hp
    rcases List.mem_append.mp hp with h | h
    · exact .inl (List.mem_append.mpr (.inl h))
    · rcases List.mem_cons.mp h with rfl | h
      · exact .inr (.inr (.inr ⟨_, hcd⟩))
      · exact .inl (List.mem_append.mpr (.inr h))
  have hoff4 : ∀ p ∈ tl ++ nw, p.1 ≠ L + 1 + 1 + 1 + 1 := fun p hp => by
    rcases List.mem_append.mp hp with h | h
    · exact off3 p h _ (.head _)
    · exact hoffc p h
  refine part4 B X T F3 N3' v3 hcd hoff4 (hF.firm loose (by omega)) (by omega) (by omega) hs1 hs2 ?_
  intro h4 tk4 m4 d od pl kp sl sv4 ks4 base oc' F4 vt vs k4 N4 offd offp hdp lo hT hoc hocd sub hsl hσ
  rw [hlc] at hσ
  obtain ⟨g1, g2, g3, g4, g5, g6⟩ := plain_facts hmy1 hmy hs1 hs2
  refine tail5 B X T F4 N4 vt vs ((k4 _ (by decide) (by decide)).trans ((k3 _ (by decide)).trans hm1)) hoc hocd (sub _ (List.mem_append.mpr (.inr hc2))) hd2 hs1 hs2 hmy hsl hσ g1 g2 hT offd offp hdp lo g3 g4 g5 g6 hend
end Mine

namespace Mine
theorem quietM4 : True := by
  w_top off
  trivial
open PySem PySem.W PyProof.Rows PySem.Spec PySem.Calls
set_option Elab.async false
set_option maxRecDepth 100000
set_option maxHeartbeats 4000000

local macro_rules | `(tactic| k_all) => `(tactic| first | exact List.forall_mem_nil _ | with_reducible assumption | (refine' List.forall_mem_cons.mpr ⟨?a, ?b⟩; (case a => k_ne); (case b => k_all)))
noncomputable def SJ (c4 c3 c2 c1 : Addr × Obj) (D9 : Addr) (i : Nat) (ys : List Value) (nw : List (Addr × Obj)) : Prop :=
  ∃ r0 r1 t0 t1 n tl qs, nw = c4 :: c3 :: c2 :: c1 :: (D9, listOf #[.int r0 t0, .int r1 t1] n) :: tl ∧ 0 ≤ r1 ∧ r1 < 70000 ∧ (∀ p ∈ tl, p.1 ≠ D9) ∧ (∀ p ∈ tl, p.1 ≠ c4.1) ∧ (∀ p ∈ tl, p.1 ≠ c3.1) ∧ (∀ p ∈ tl, p.1 ≠ c2.1) ∧ (∀ p ∈ tl, p.1 ≠ c1.1) ∧
    ArePairs tl ys qs ∧ (∀ q ∈ qs, 1 ≤ q.1 ∧ q.1 ≤ 2 ∧ 1 ≤ q.2 ∧ q.2 ≤ 2 ∧ q.1 * q.2 ≤ 2) ∧ qs.length = i
theorem to_front {h₀ : Heap} {L : Addr} {h : Heap} {x y c4 c3 c2 c1 : Addr × Obj} (N : News h₀ L h [x, y, c4, c3, c2, c1]) : News h₀ L h [c4, c3, c2, c1, y, x] :=
  reorder N (by (repeat' first | refine sub_a ?_ ?_ | refine sub_c ?_ ?_) <;> first | exact no_mem | kn_among | (intro q hq; kn_among))
theorem sj0 {x c4 c3 c2 c1 : Addr × Obj} {D9 : Addr} {r0 r1 : Int} {t0 t1 : Tok} {n : Nat} (lo : 0 ≤ r1) (hi : r1 < 70000) (h9 : x.1 ≠ D9) (h4 : x.1 ≠ c4.1) (h3 : x.1 ≠ c3.1) (h2 : x.1 ≠ c2.1) (h1 : x.1 ≠ c1.1) :
    SJ c4 c3 c2 c1 D9 0 [] [c4, c3, c2, c1, (D9, listOf #[.int r0 t0, .int r1 t1] n), x] :=
  ⟨r0, r1, t0, t1, n, [x], [], rfl, lo, hi, all1 h9, all1 h4, all1 h3, all1 h2, all1 h1, .nil, (fun _ h => nomatch h), rfl⟩
theorem menu_item {prog : Program} {w : World} {A : Around} {E : Value → Shared → Prop} {s : Shared} {h₀ : Heap} {L : Addr} {news : List (Addr × Obj)} {value slice : Expr} {l a0 a1 a2 a3 a4 : Addr} {t0 u0 t1 u1 t2 u2 t3 u3 t4 u4 : Tok} {k : Int} {u : Tok} {Q : Value → Shared → Prop}
    (N : News h₀ L s.heap news) (hm : (l, ({ cls := .type "tuple", data := .seq #[.ref a0, .ref a1, .ref a2, .ref a3, .ref a4] } : Obj)) ∈ news)
    (m0 : (a0, tup2 1 1 t0 u0) ∈ news) (m1 : (a1, tup2 1 1 t1 u1) ∈ news) (m2 : (a2, tup2 1 1 t2 u2) ∈ news) (m3 : (a3, tup2 2 1 t3 u3) ∈ news) (m4 : (a4, tup2 1 2 t4 u4) ∈ news) (lo : 0 ≤ k) (hi : k < 5)
    (h : ∀ a p q t u, (a, tup2 p q t u) ∈ [(a0, tup2 1 1 t0 u0), (a1, tup2 1 1 t1 u1), (a2, tup2 1 1 t2 u2), (a3, tup2 2 1 t3 u3), (a4, tup2 1 2 t4 u4)] → (1 ≤ p ∧ p ≤ 2 ∧ 1 ≤ q ∧ q ≤ 2 ∧ p * q ≤ 2) → Q (.ref a) s)
    (hs : subscripted slice false (.ref l) (.int k u) = operate [.ref l, .int k u] (getItem (.ref l) (.int k u)) := by with_unfolding_all rfl) :
    wpAny (model prog w) A (subscriptTail value slice (.ref l) (.int k u)) Q E s := by
  have ht : IsTup s.heap l #[.ref a0, .ref a1, .ref a2, .ref a3, .ref a4] := ⟨_, N.get hm, rfl, _, rfl⟩
  have go : ∀ (j : Nat) (a : Addr) (p q : Int) (t z : Tok), k = (j : Int) → j < 5 → (#[Value.ref a0, .ref a1, .ref a2, .ref a3, .ref a4] : Array Value)[j]? = some (.ref a) → (a, tup2 p q t z) ∈ [(a0, tup2 1 1 t0 u0), (a1, tup2 1 1 t1 u1), (a2, tup2 1 1 t2 u2), (a3, tup2 2 1 t3 u3), (a4, tup2 1 2 t4 u4)] → (1 ≤ p ∧ p ≤ 2 ∧ 1 ≤ q ∧ q ≤ 2 ∧ p * q ≤ 2) →
      wpAny (model prog w) A (subscriptTail value slice (.ref l) (.int k u)) Q E s := by
    intro j a p q t z e hj hx hn hb
    refine tail_any ht.typeIs slot_tuple_getitem.lookup (PyProof.Rows.getItem_tuple ht (by omega) (by omega) (j := j) ?_ hx (h a p q t z hn hb)) hs
    subst e
    unfold seqIndex?
    have h1 : ¬ ((j : Int) < 0) := by omega
    simp only [h1, if_false]
    rw [if_pos (by simp only [Bool.and_eq_true, decide_eq_true_eq]; exact ⟨by omega, by simp only [List.size_toArray, List.length_cons, List.length_nil]; omega⟩)]
    rfl
  have hk : k = 0 ∨ k = 1 ∨ k = 2 ∨ k = 3 ∨ k = 4 := by omega
  rcases hk with rfl | rfl | rfl | rfl | rfl
  · exact go 0 a0 1 1 t0 u0 rfl (by decide) rfl (by simp) (by decide)
  · exact go 1 a1 1 1 t1 u1 rfl (by decide) rfl (by simp) (by decide)
  · exact go 2 a2 1 1 t2 u2 rfl (by decide) rfl (by simp) (by decide)
  · exact go 3 a3 2 1 t3 u3 rfl (by decide) rfl (by simp) (by decide)
  · exact go 4 a4 1 2 t4 u4 rfl (by decide) rfl (by simp) (by decide)
theorem sj_end {h₀ h' : Heap} {L I C D D9 : Addr} {oI oC oD o9' : Obj} {m : Str → Option Value} {s₁ : Shared} {S : List (Addr × Obj) → Prop} {tk : Nat} {n0 n1 n2 n3 n4 n5 c4 c3 c2 c1 : Addr × Obj} {r0 r1 p q : Int} {t0 t1 t u : Tok} {n i : Nat} {a : Addr} {tl : List (Addr × Obj)} {ys : List Value} {qs : List (Int × Int)}
    (F : Fr h₀ L h' m) (N : News h₀ L h' (n0 :: n1 :: n2 :: n3 :: n4 :: n5 :: (I, oI) :: (C, oC) :: (D, oD) :: c4 :: c3 :: c2 :: c1 :: (D9, listOf #[.int r0 t0, .int r1 t1] n) :: tl))
    (l1 : AllLt n1.1 ((I, oI) :: (C, oC) :: (D, oD) :: c4 :: c3 :: c2 :: c1 :: (D9, o9') :: tl)) (l2 : AllLt n2.1 ((I, oI) :: (C, oC) :: (D, oD) :: c4 :: c3 :: c2 :: c1 :: (D9, o9') :: tl)) (l3 : AllLt n3.1 ((I, oI) :: (C, oC) :: (D, oD) :: c4 :: c3 :: c2 :: c1 :: (D9, o9') :: tl))
    (l4 : AllLt n4.1 ((I, oI) :: (C, oC) :: (D, oD) :: c4 :: c3 :: c2 :: c1 :: (D9, o9') :: tl)) (l5 : AllLt n5.1 ((I, oI) :: (C, oC) :: (D, oD) :: c4 :: c3 :: c2 :: c1 :: (D9, o9') :: tl))
    (off : ∀ p ∈ c4 :: c3 :: c2 :: c1 :: (D9, o9') :: tl, p.1 ≠ I ∧ p.1 ≠ C ∧ p.1 ≠ D) (lo : 0 ≤ r1) (hi : r1 < 70000) (h9 : ∀ p ∈ tl, p.1 ≠ D9) (h4 : ∀ p ∈ tl, p.1 ≠ c4.1) (h3 : ∀ p ∈ tl, p.1 ≠ c3.1) (h2 : ∀ p ∈ tl, p.1 ≠ c2.1) (h1 : ∀ p ∈ tl, p.1 ≠ c1.1)
    (hP : ArePairs tl ys qs) (hB : ∀ q ∈ qs, 1 ≤ q.1 ∧ q.1 ≤ 2 ∧ 1 ≤ q.2 ∧ q.2 ≤ 2 ∧ q.1 * q.2 ≤ 2) (hL : qs.length = i) (hm : (a, tup2 p q t u) ∈ [n5, n4, n3, n2, n1]) (hb : 1 ≤ p ∧ p ≤ 2 ∧ 1 ≤ q ∧ q ≤ 2 ∧ p * q ≤ 2) (hS : ∀ l, S l) :
    LCg.CompEnd h₀ L m s₁ I oI C oC D oD S (fun y nw' => SJ c4 c3 c2 c1 D9 (i + 1) (ys ++ [y]) nw') (.ref a) { s₁ with heap := h', toks := tk } := by
  have e1 := ne_of_allLt l1
  have e2 := ne_of_allLt l2
  have e3 := ne_of_allLt l3
  have e4 := ne_of_allLt l4
  have e5 := ne_of_allLt l5
  have five : ∀ p ∈ [n5, n4, n3, n2, n1], ∀ q ∈ (I, oI) :: (C, oC) :: (D, oD) :: c4 :: c3 :: c2 :: c1 :: (D9, o9') :: tl, p.1 ≠ q.1 := by
    intro p hp
    simp only [List.mem_cons, List.not_mem_nil, or_false] at hp
    rcases hp with rfl | rfl | rfl | rfl | rfl
    · exact e5
    · exact e4
    · exact e3
    · exact e2
    · exact e1
  have both : ∀ (b : Addr × Obj), b ∈ (I, oI) :: (C, oC) :: (D, oD) :: c4 :: c3 :: c2 :: c1 :: (D9, o9') :: tl → (∀ p ∈ tl, p.1 ≠ b.1) → ∀ p ∈ [n5, n4, n3, n2, n1] ++ tl, p.1 ≠ b.1 := by
    intro b hb ht p hp
    rcases List.mem_append.mp hp with h | h
    · exact five p h b hb
    · exact ht p h
  refine LCg.CompEnd.intro F N (c4 :: c3 :: c2 :: c1 :: (D9, listOf #[.int r0 t0, .int r1 t1] n) :: ([n5, n4, n3, n2, n1] ++ tl)) (fun p hp => ?_) (LCg.Off3.of fun p hp => ?_) (hS _) ?_
  · revert p; (repeat' first | refine sub_a ?_ ?_ | refine sub_c ?_ ?_) <;> first | exact no_mem | kn_among | (intro q hq; kn_among)
  · simp only [List.mem_cons] at hp
    have o9 := off (D9, o9') (by simp)
    rcases hp with h | h | h | h | h | h
    · exact off p (by simp [h])
    · exact off p (by simp [h])
    · exact off p (by simp [h])
    · exact off p (by simp [h])
    · rw [h]; exact o9
    · rcases List.mem_append.mp h with h | h
      · exact ⟨five p h (I, oI) (by simp), five p h (C, oC) (by simp), five p h (D, oD) (by simp)⟩
      · exact off p (by simp [h])
  · refine ⟨r0, r1, t0, t1, n, _, qs ++ [(p, q)], rfl, lo, hi, both (D9, o9') (by simp) h9, both c4 (by simp) h4, both c3 (by simp) h3, both c2 (by simp) h2, both c1 (by simp) h1, ?_, ?_, by simp [hL]⟩
    · exact (hP.mono sub_app).append (.cons (List.mem_append.mpr (.inl hm)) .nil)
    · intro x hx
      rcases List.mem_append.mp hx with h | h
      · exact hB x h
      · rw [List.mem_singleton.mp h]; exact hb
theorem toC {h₀ h : Heap} {L : Addr} {a c4 : Addr × Obj} {l : List (Addr × Obj)} (N : News h₀ L h (a :: c4 :: l)) : News h₀ L h (c4 :: a :: l) :=
  reorder N (by (repeat' first | refine sub_a ?_ ?_ | refine sub_c ?_ ?_) <;> first | exact no_mem | kn_among | (intro q hq; kn_among))
theorem offC {L D D9 : Addr} {oD o3 o2 o1 o9 oc : Obj} {tl : List (Addr × Obj)} (h : (L + 1 + 1 + 1 + 1 ≠ D) ∧ (L + 1 + 1 + 1 ≠ D) ∧ (L + 1 + 1 ≠ D) ∧ (L + 1 ≠ D) ∧ (D9 ≠ D) ∧ LCg.Off1 D tl) (h9 : L + 1 + 1 + 1 + 1 < D9) (ht : ∀ p ∈ tl, p.1 ≠ ((L + 1 + 1 + 1 + 1, oc) : Addr × Obj).1) :
    ∀ p ∈ (D, oD) :: (L + 1 + 1 + 1, o3) :: (L + 1 + 1, o2) :: (L + 1, o1) :: (D9, o9) :: tl, p.1 ≠ L + 1 + 1 + 1 + 1 := by
  intro p hp
  simp only [List.mem_cons] at hp
  have hL : ∀ k : Nat, k < 4 → ∀ x : Nat, x + k ≠ x + 4 := fun k hk x => by omega
  rcases hp with rfl | rfl | rfl | rfl | rfl | hp
  · exact Ne.symm h.1
  · exact hL 3 (by decide) L
  · exact hL 2 (by decide) L
  · exact hL 1 (by decide) L
  · exact Nat.ne_of_gt h9
  · exact ht p hp
theorem five_sub {a b c d e : Addr × Obj} {l : List (Addr × Obj)} : ∀ p ∈ l, p ∈ a :: b :: c :: d :: e :: l := fun _ h => .tail _ (.tail _ (.tail _ (.tail _ (.tail _ h))))
theorem main : PySem.Challenge.rw_xm0819_01.Holds := hd (by
  k_go0
  rename World => w
  all_goals try k_fold
  k_with_none
  k_with "call ref!" => k_dflt (
    refine' relay_step ?k1 ?k2 ?k3 ?k4 ?k5 ?kK ?l1 ?l2 ?l3 ?l4 ?kd ?ku ?_
    case k1 => k_asm
    case k2 => k_asm
    case k3 => k_in
    case k4 => k_asm
    case k5 => k_asm
    case kK => first | exact rfl | assumption
    case l1 => assumption
    case l2 => assumption
    case l3 => assumption
    case l4 => assumption
    case kd => ktr_room
    case ku => ktr_units
    intro D9 r0 r1 t0 t1 n9 h9 tk9 hoD lo1 hi1 F9 N9
    k_lt hoD
    try dsimp only
    try k_fold)
  k_with "call ref!" => k_dflt (
    refine' baton_step ?k1 ?k2 ?k3 ?k4 ?kU ?k5 ?kK ?b1 ?b2 ?b3 ?b4 ?kd ?ku ?_
    case k1 => k_asm
    case k2 => k_asm
    case k3 => k_in
    case k4 => k_asm
    case k5 => k_asm
    case kU => k_updF
    case kK => first | exact rfl | assumption
    case b1 => assumption
    case b2 => assumption
    case b3 => decide
    case b4 => decide
    case kd => ktr_room
    case ku => ktr_units
    intro told r0 r1 t9 t0 t1 n9 h9 tk9 lo9 hi9 lo1 hi1 F9 N9
    try dsimp only
    try k_fold)
  k_with "CompSrc!" => k_dflt (
    (with_reducible rename News _ _ _ _ => N7)
    have N8 := to_front N7
    refine' LCg.CompSrc.range (n := (1 + told).toNat) ?e1 ?e2 N8 ?e4 ?e5 ?e6 ?e7 ?_
    case e1 => rfl
    case e2 => k_asm
    case e4 => with_reducible assumption
    case e5 => exact small_one (by omega) (by omega) (by omega) (by omega)
    case e6 =>
      rw [show 1 + told = (((1 + told).toNat : Nat) : Int) by omega]
      exact rangeSize_nat _ _
    case e7 =>
      rw [PySem.sizeLine_eq]
      omega
    intro g'
    refine' rest_inv (SJ _ _ _ _ D9) (sj0 (by assumption) (by assumption) ?j9 ?j4 ?j3 ?j2 ?j1) (fun i ys nw v I' oI' C' oC' D' m' h' tk' E' hi' hv hJ hC' hx' F' N' off' ne' => ?turn) (fun ys nw hJ => ?fin)
    case' turn =>
      obtain ⟨r0, r1, t0, t1, n, tl, qs, rfl, lo1, hi1, o9, o4, o3, o2, o1, hP, hB, hL⟩ := hJ
      obtain ⟨t, rfl⟩ := hv
      have offm := LCg.Off3.mem off'
      clear off'
      obtain ⟨dI, dC, dD⟩ := offm (D9, _) (.tail _ (.tail _ (.tail _ (.tail _ (.head _)))))
      dsimp only at dI dC dD
      have dI := Ne.symm dI
      have dC := Ne.symm dC
      have dD := Ne.symm dD
      have hne : True → _ := fun _ => ne'
      clear ne'
    case' fin =>
      obtain ⟨r0, r1, t0, t1, n, tl, qs, rfl, lo1, hi1, o9, o4, o3, o2, o1, hP, hB, hL⟩ := hJ
    case j9 => k_ne
    case j4 => k_ne
    case j3 => k_ne
    case j2 => k_ne
    case j1 => k_ne
    all_goals (try k_fold))
  k_with "subscriptTail!" => k_dflt (
    refine' menu_item ?m ?m5 ?m0 ?m1 ?m2 ?m3 ?m4 ?lo ?hi ?_
    case m => k_asm
    case m5 => k_mem
    case m0 => k_mem
    case m1 => k_mem
    case m2 => k_mem
    case m3 => k_mem
    case m4 => k_mem
    case lo => assumption
    case hi => assumption
    intro a9 p9 q9 t9 u9 hm9 hb9
    try dsimp only)
  k_with "CompEnd!" => k_dflt (
    rename (_ ∧ _ ∧ _ ∧ _ ∧ _ ∧ _ ∧ _ ∧ _ ∧ AllLt _ tl) => l5
    rename (_ ∧ _ ∧ _ ∧ _ ∧ _ ∧ _ ∧ _ ∧ _ ∧ _ ∧ AllLt _ tl) => l4
    rename (_ ∧ _ ∧ _ ∧ _ ∧ _ ∧ _ ∧ _ ∧ _ ∧ _ ∧ _ ∧ AllLt _ tl) => l3
    rename (_ ∧ _ ∧ _ ∧ _ ∧ _ ∧ _ ∧ _ ∧ _ ∧ _ ∧ _ ∧ _ ∧ AllLt _ tl) => l2
    rename (_ ∧ _ ∧ _ ∧ _ ∧ _ ∧ _ ∧ _ ∧ _ ∧ _ ∧ _ ∧ _ ∧ _ ∧ AllLt _ tl) => l1
    exact sj_end F9 N9 l1.2.2.2.2 l2.2.2.2 l3.2.2 l4.2 l5 offm lo1 hi1 o9 o4 o3 o2 o1 hP hB hL hm9 hb9 (fun _ => trivial))
  k_with "execs!" => k_dflt (
    with_reducible show wpAny _ _ (execs [_, _, _, _, _, _, _, _, _, _, _] _) _ _ _
    with_reducible rename News _ _ _ _ => N9
    with_reducible rename Fr _ _ _ _ => F9
    rename (_ ≠ _ ∧ _ ≠ _ ∧ _ ≠ _ ∧ _ ≠ _ ∧ _ ≠ _ ∧ LCg.Off1 _ tl) => o7
    refine wpAny_noRaise ?_
    refine RunsAt.use (k := 3) ?z1 ?z2
    case z1 => exact rfl
    (refine' tail3 (many := (1 + told).toNat) (qs := qs) ?k1 ?k2 ?k3 F9 (toC N9) ?k4 ?k5 ?k6 ?k7 ?k8 ?k9 ?ka ?kb ?kc ?kd ?ke ?kf ?kg ?kh ?ki ?_)
    case k1 => k_asm
    case k2 => k_in
    case k3 => k_asm
    case k4 => with_reducible assumption
    case k5 => exact offC o7 hoD.1 o4
    case k6 => exact congrArg some (congrArg (fun z => Value.int z _) (Int.toNat_of_nonneg (by omega)).symm)
    case k7 => omega
    case k8 => omega
    case kb => (exact .tail _ (.tail _ (.head _)))
    case kc => with_reducible assumption
    case k9 => omega
    case ka => omega
    case kd => exact .tail _ (.head _)
    case ke => with_reducible assumption
    case kf => exact .head _
    case kg => exact hP.mono five_sub
    case kh => exact hL
    case ki => exact hB
    intro h7 tk7 m7 nw7 F7 N7
    try dsimp only)
  k_steps)
end Mine

theorem PySem.Challenge.cw_xm0819_01_holds : PySem.Challenge.rw_xm0819_01.Holds := by
  exact Mine.main
