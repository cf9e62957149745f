import PyProof.Rows.All
import Wide.All
import OpenK.AllK
import Wide.FinOn
import PyProof.FactsAll.tuple_iterator_1
import PyProof.ForAny
import PyProof.CompFree
import PyProof.ListOps
import PyProof.DictKinds
import PyProof.DictWalks
import PyProof.Draws
import PyProof.EnumMake
import PyProof.EqKinds
import PyProof.WalksMore
import PyProof.RangeFor
import PyProof.ListCopy
import PyProof.WalkInts
import PyProof.Rows.TupAssign
import PyProof.SeqI3
import PyProof.Rows.SortShell
import OpenK.KEqL
import KE.LcTurns
import KE.KDictList
import KE.KDictSum
import KE.KRevSl
import KE.KSortTup
import PySem.Challenge.RW_tk0098_01
section PHd
open PySem PySem.W PyProof.Rows
set_option Elab.async false
set_option linter.unusedVariables false
set_option maxRecDepth 100000
set_option maxHeartbeats 8000000
set_option compiler.extract_closed false
namespace Mine
noncomputable def viewBody : List Stmt := [0, 2, 3, 4, 5, 6, 8, 9, 10, 11, 13, 14, 15, 16, 17, 19, 20, 22, 23, 24, 25, 26].filterMap fun i => PySem.Challenge.pw_tk0098_01.main.body[i]?
noncomputable def view : Program := { PySem.Challenge.pw_tk0098_01 with main := { PySem.Challenge.pw_tk0098_01.main with body := viewBody } }
theorem said : PySem.Challenge.rw_tk0098_01.wellSaid = true := by
  rw [PySem.W.Fast.te9446332074065402090]
  unfold PySem.W.Fast.tw9446332074065402090
  repeat' with_reducible refine look_both ?_ ?_
  all_goals decide +kernel
theorem left_boot {β : Type} {p : Program} {f : Shared → β} {r : World → β} {N : Nat}
    (b : ∀ w : World, (fencedOpening treeTable p w N).map (fun s => (s.heap, s.gens, s.drawn, s.toks)) = some (boot_heap w.params, Array.mk [], boot_drawn, boot_toks))
    (h : ∀ (w : World) (os : OsState), (topFrom treeTable p w N ⟨boot_heap w.params, Array.mk [], boot_drawn, boot_toks, os⟩).map f = some (r w)) (w : World) : (openEnds treeTable p w N).map f = some (r w) := by
  obtain ⟨⟨hp, gs, d, k, os⟩, e, e'⟩ := Option.map_eq_some_iff.mp (b w)
  obtain ⟨rfl, rfl, rfl, rfl⟩ : hp = boot_heap w.params ∧ gs = Array.mk [] ∧ d = boot_drawn ∧ k = boot_toks := by simpa only [Prod.mk.injEq] using e'
  unfold openEnds
  rw [e]
  exact h w os
local macro_rules | `(tactic| o_law) => `(tactic| refine holds_law Mine.said fun said => ?_)
local macro_rules | `(tactic| o_head $H) => `(tactic| (
  refine holds_open (q := Mine.view) (loose := []) (Xt := fun s => xlAt Mine.view [] s && recOk (RowW.records (OpenRow.toRowW (OpenLaw.row PySem.Challenge.rw_tk0098_01))) s) (XP := XL Mine.view []) (Yf := Hook.obs $H) (Ya := Hook.val $H) (YP := Hook.says $H) (N := 3400) ?hl (Hook.of $H) (Hook.keeps $H) (fun s e => xl_of s (Bool.and_eq_true_iff.mp e).1) XL.keeps (by rfl) (by rfl) (by rfl) (fun s e => recFacts_of (Bool.and_eq_true_iff.mp e).2) (by rfl) (by first | assumption | decide +kernel) (by decide +kernel) ⟨rfl, rfl, rfl, rfl, rfl, by decide +kernel⟩ ?hw ?hc
  case hl => (
    refine Mine.left_boot (boot_open (by rfl) (by rfl) (fun s => by rfl)) ?_
    intro w os
    unfold topFrom
    rw [PySem.W.Fast.te14082659384304107361, PySem.W.Fast.te14364793385576792824, PySem.W.Fast.te4187177175401517315]
    kernel_rfl)))
open_top hd for PySem.Challenge.rw_tk0098_01
end Mine
end PHd
section PBase
open PySem PySem.W PyProof.Rows
set_option Elab.async false
set_option linter.unusedVariables false
set_option maxRecDepth 100000
namespace Mine

abbrev Sub (g h : Heap) : Prop := ∀ b o, g.get? b = some o → h.get? b = some o
theorem Sub.rfl' (h : Heap) : Sub h h := fun _ _ e => e
theorem Sub.trans {g h k : Heap} (a : Sub g h) (b : Sub h k) : Sub g k := fun x o e => b x o (a x o e)
theorem Sub.push (h : Heap) (o : Obj) : Sub h (h.push o) := fun _ _ e => Heap.get?_push_of_some o e

abbrev But (as : List Addr) (h h' : Heap) : Prop := ∀ b o, b ∉ as → h.get? b = some o → h'.get? b = some o
theorem But.trans {as : List Addr} {g h k : Heap} (a : But as g h) (b : But as h k) : But as g k := fun x o n e => b x o n (a x o n e)
theorem But.of_sub {as : List Addr} {g h : Heap} (a : Sub g h) : But as g h := fun x o _ e => a x o e
theorem But.of_ext {a : Addr} {as : List Addr} {g h : Heap} (x : Heap.ExtBut a g h) (ha : a ∈ as) : But as g h := fun b o n e => x b o (fun e' => n (e' ▸ ha)) e
theorem But.mono {as bs : List Addr} {g h : Heap} (x : But as g h) (hs : ∀ a ∈ as, a ∈ bs) : But bs g h := fun b o n e => x b o (fun m => n (hs _ m)) e
theorem But.sub {g h : Heap} (x : But [] g h) : Sub g h := fun b o e => x b o (by simp) e

noncomputable def dropAt (h : Heap) (as : List Addr) : Heap := ⟨h.objs.mapIdx fun i o => if i ∈ as then { cls := .none, data := .freed } else o, h.life⟩
theorem dropAt_in {h : Heap} {as : List Addr} {b : Addr} (hb : b ∈ as) : (dropAt h as).get? b = none := by
  unfold dropAt Heap.get?
  simp only [Array.getElem?_mapIdx]
  cases h.objs[b]? with
  | none => rfl
  | some o => simp only [Option.map_some, hb, if_true]
theorem dropAt_out {h : Heap} {as : List Addr} {b : Addr} (hb : b ∉ as) : (dropAt h as).get? b = h.get? b := by
  unfold dropAt Heap.get?
  simp only [Array.getElem?_mapIdx]
  cases h.objs[b]? with
  | none => rfl
  | some o => simp only [Option.map_some, hb, if_false]
theorem dropAt_sub (h : Heap) (as : List Addr) : Sub (dropAt h as) h := fun b o e => by
  by_cases hb : b ∈ as
  · rw [dropAt_in hb] at e; cases e
  · rw [dropAt_out hb] at e; exact e
theorem dropAt_get {h : Heap} {as : List Addr} {b : Addr} {o : Obj} (hb : b ∉ as) (e : h.get? b = some o) : (dropAt h as).get? b = some o := (dropAt_out hb).trans e

structure Wd (w : World) (mg mb : Str → Option Value) (h : Heap) : Prop where
  K : (hd.heap_1 w.params).In h
  T : TopRead view (looseW view []) mg mb h
theorem Wd.keeps {w : World} {mg mb : Str → Option Value} {g h : Heap} (x : Wd w mg mb g) (k : Sub g h) : Wd w mg mb h := ⟨x.K.keeps k, x.T.keeps k⟩

structure Room (n : Nat) (A : Around) : Prop where
  handled : A.handled = none
  depth : A.depth + n < 900
  units : A.units + 20 * n < 9000
theorem Room.deeper {n : Nat} {A : Around} (x : Room (n + 1) A) (env : Env) : Room n (A.deeper env) :=
  ⟨x.handled, by have := x.depth; show A.depth + 1 + n < 900; omega, by have := x.units; show A.units + 3 + 20 * n < 9000; omega⟩
theorem Room.less {n k : Nat} {A : Around} (x : Room n A) (h : k ≤ n) : Room k A := ⟨x.handled, by have := x.depth; omega, by have := x.units; omega⟩
theorem Room.in1 {n : Nat} {A : Around} (x : Room (n + 1) A) : Room n A.in1 := ⟨x.handled, by have := x.depth; show A.depth + n < 900; omega, by have := x.units; show A.units + 1 + 20 * n < 9000; omega⟩
theorem Room.lt {n : Nat} {A : Around} (x : Room n A) : A.depth < recursionLimit := by have := x.depth; show A.depth < 1000; omega
theorem Room.cl {n : Nat} {A : Around} (x : Room n A) : A.units < cLine := by have := x.units; show A.units < 9900; omega

noncomputable def VarIs (env : Env) (m : Str → Option Value) (h : Heap) (x : Str) (v : Option Value) : Prop :=
  (env.kindOf x = some .local ∧ m x = v) ∨ (env.kindOf x = some .cell ∧ ∃ c, env.cells.lookup x = some c ∧ h.IsCell c v)

structure Rd (w : World) (mg mb : Str → Option Value) (g : Heap) (env : Env) (V : List (Str × Option Value)) (h : Heap) : Prop where
  fn : env.scope.kind = .function
  gl : env.globals = mainGlobals
  bu : env.builtins = builtinsNs
  wd : Wd w mg mb g
  keep : Sub g h
  vars : ∃ m, h.Ns env.locals m ∧ ∀ p ∈ V, VarIs env m h p.1 p.2

structure Fx (w : World) (mg mb : Str → Option Value) (g : Heap) (env : Env) (V : List (Str × Option Value)) (M : List (Addr × (Obj → Prop))) (h : Heap) : Prop
    extends Rd w mg mb g env V h where
  own : ∀ p ∈ M, ∃ o, h.get? p.1 = some o ∧ p.2 o
  gn : ∀ a ∈ env.locals :: (env.cells.map (·.2) ++ M.map (·.1)), g.get? a = none
  nd : (env.locals :: (env.cells.map (·.2) ++ M.map (·.1))).Nodup
  vn : (V.map (·.1)).Nodup
  cl : ∀ x ∈ env.cells, ∃ v, h.IsCell x.2 v

section
variable {w : World} {mg mb : Str → Option Value} {g h h' : Heap} {env : Env} {V V' : List (Str × Option Value)} {M M' : List (Addr × (Obj → Prop))}

theorem VarIs.keeps {m : Str → Option Value} {x : Str} {v : Option Value} (y : VarIs env m h x v) (k : ∀ c, env.cells.lookup x = some c → ∀ o, h.get? c = some o → h'.get? c = some o) : VarIs env m h' x v := by
  rcases y with a | ⟨a, c, b, o, d, e⟩
  · exact .inl a
  · exact .inr ⟨a, c, b, o, k c b o d, e⟩

theorem Rd.ext (F : Rd w mg mb g env V h) (k : Sub h h') : Rd w mg mb g env V h' :=
  let ⟨m, hn, hv⟩ := F.vars
  ⟨F.fn, F.gl, F.bu, F.wd, F.keep.trans k, m, hn.keeps k, fun p hp => (hv p hp).keeps fun _ _ o e => k _ o e⟩
theorem Rd.wdh (F : Rd w mg mb g env V h) : Wd w mg mb h := F.wd.keeps F.keep

theorem Fx.size (F : Fx w mg mb g env V M h) : ∀ a ∈ env.locals :: (env.cells.map (·.2) ++ M.map (·.1)), a < h.objs.size := by
  obtain ⟨m, hn, _⟩ := F.vars
  intro a ha
  rcases List.mem_cons.mp ha with rfl | ha
  · exact hn.lt
  rcases List.mem_append.mp ha with ha | ha
  · obtain ⟨x, hx, rfl⟩ := List.mem_map.mp ha; exact (F.cl x hx).choose_spec.lt
  · obtain ⟨x, hx, rfl⟩ := List.mem_map.mp ha; obtain ⟨o, ho, _⟩ := F.own x hx; exact Heap.lt_size ho

theorem sub_size (k : Sub h h') {a : Addr} {o : Obj} (e : h.get? a = some o) : a < h'.objs.size := Heap.lt_size (k a o e)

theorem Fx.ext (F : Fx w mg mb g env V M h) (k : Sub h h') : Fx w mg mb g env V M h' :=
  { F.toRd.ext k with
    own := fun p hp => let ⟨o, ho, x⟩ := F.own p hp; ⟨o, k _ _ ho, x⟩
    gn := F.gn, nd := F.nd, vn := F.vn, cl := fun x hx => let ⟨v, c⟩ := F.cl x hx; ⟨v, c.keeps k⟩ }
theorem Fx.push (F : Fx w mg mb g env V M h) (o : Obj) : Fx w mg mb g env V M (h.push o) := F.ext (Sub.push h o)

inductive At {α β : Type} (x : α) (v : β) : List (α × β) → Prop
  | head {r} : At x v ((x, v) :: r)
  | tail {p r} : At x v r → At x v (p :: r)
theorem At.mem {α β : Type} {x : α} {v : β} {l : List (α × β)} (a : At x v l) : (x, v) ∈ l := by
  induction a with
  | head => exact .head _
  | tail _ ih => exact .tail _ ih
inductive Put {α β : Type} (x : α) (v : β) : List (α × β) → List (α × β) → Prop
  | head {u r} : Put x v ((x, u) :: r) ((x, v) :: r)
  | tail {p r r'} : Put x v r r' → Put x v (p :: r) (p :: r')
theorem Put.keys {α β : Type} {x : α} {v : β} {l l' : List (α × β)} (p : Put x v l l') : l'.map (·.1) = l.map (·.1) := by
  induction p with
  | head => rfl
  | tail _ ih => simp only [List.map_cons, ih]
theorem Put.has {α β : Type} {x : α} {v : β} {l l' : List (α × β)} (p : Put x v l l') : x ∈ l.map (·.1) := by
  induction p with
  | head => simp
  | tail _ ih => exact List.mem_cons_of_mem _ ih
theorem Put.mem {α β : Type} {x : α} {v : β} {l l' : List (α × β)} (p : Put x v l l') (hn : (l.map (·.1)).Nodup) : ∀ q ∈ l', q = (x, v) ∨ (q.1 ≠ x ∧ q ∈ l) := by
  induction p with
  | head =>
    intro q hq
    rcases List.mem_cons.mp hq with rfl | hq
    · exact .inl rfl
    · refine .inr ⟨?_, List.mem_cons_of_mem _ hq⟩
      intro e
      simp only [List.map_cons, List.nodup_cons] at hn
      exact hn.1 (List.mem_map.mpr ⟨q, hq, e⟩)
  | @tail p₀ r r' h ih =>
    intro q hq
    simp only [List.map_cons, List.nodup_cons] at hn
    rcases List.mem_cons.mp hq with rfl | hq
    · refine .inr ⟨?_, .head _⟩
      rintro rfl
      exact hn.1 h.has
    · rcases ih hn.2 q hq with e | ⟨a, b⟩
      · exact .inl e
      · exact .inr ⟨a, List.mem_cons_of_mem _ b⟩
theorem Put.mid {α β : Type} {x : α} {v : β} {l l' : List (α × β)} (p : Put x v l l') : ∃ u, (x, u) ∈ l := by
  induction p with
  | head => exact ⟨_, .head _⟩
  | tail _ ih => exact ⟨ih.choose, List.mem_cons_of_mem _ ih.choose_spec⟩

theorem mem_values_of_lookup {x : Str} {c : Addr} {l : List (Str × Addr)} (e : l.lookup x = some c) : c ∈ l.map (·.2) := List.mem_map.mpr ⟨(x, c), mem_of_lookup e, rfl⟩

theorem Fx.put {a : Addr} {P : Obj → Prop} {o' : Obj} (F : Fx w mg mb g env V M h) (hp : Put a P M M') (hk : Heap.ExtBut a h h') (ho : h'.get? a = some o') (hP : P o') :
    Fx w mg mb g env V M' h' := by
  obtain ⟨m, hn, hv⟩ := F.vars
  have haM := hp.has
  have hnd := F.nd
  simp only [List.nodup_cons, List.mem_append, not_or, List.nodup_append] at hnd
  obtain ⟨⟨h1, h2⟩, h3, h4, h5⟩ := hnd
  have hag : g.get? a = none := F.gn a (List.mem_cons_of_mem _ (List.mem_append.mpr (.inr haM)))
  refine { fn := F.fn, gl := F.gl, bu := F.bu, wd := F.wd, keep := fun b o e => hk b o (by rintro rfl; rw [hag] at e; cases e) (F.keep b o e), vars := ⟨m, ?_, ?_⟩, own := ?_, gn := ?_, nd := ?_, vn := F.vn, cl := fun x hx => let ⟨v, o, c, d⟩ := F.cl x hx; ⟨v, o, hk _ _ (fun e => h5 _ (List.mem_map.mpr ⟨x, hx, rfl⟩) _ haM e) c, d⟩ }
  · exact hn.at' fun o e => hk _ o (by rintro rfl; exact h2 haM) e
  · intro p hp'
    refine (hv p hp').keeps fun c hc o e => hk c o ?_ e
    rintro rfl
    exact h5 _ (mem_values_of_lookup hc) _ haM rfl
  · intro q hq
    rcases hp.mem h4 q hq with rfl | ⟨hne, hq⟩
    · exact ⟨o', ho, hP⟩
    · obtain ⟨o, hq', hx⟩ := F.own q hq
      exact ⟨o, hk _ _ hne hq', hx⟩
  · rw [hp.keys]; exact F.gn
  · rw [hp.keys]; exact F.nd
theorem Fx.puts {a : Addr} {P : Obj → Prop} {o' : Obj} (F : Fx w mg mb g env V M h) (hp : Put a P M M') (hk : Heap.SameBut a h h') (ho : h'.get? a = some o') (hP : P o') :
    Fx w mg mb g env V M' h' := F.put hp hk.extBut ho hP

theorem Fx.alloc (F : Fx w mg mb g env V M h) (o : Obj) {P : Obj → Prop} (hP : P o) (hf : o.isFreed = false := by rfl) : Fx w mg mb g env V ((h.objs.size, P) :: M) (h.push o) := by
  have hz := F.size
  have F' := F.push o
  have hg : g.get? h.objs.size = none := by
    cases e : g.get? h.objs.size with
    | none => rfl
    | some o' => exact absurd (Heap.lt_size (F.keep _ _ e)) (Nat.lt_irrefl _)
  refine { F'.toRd with own := ?_, gn := ?_, nd := ?_, vn := F.vn, cl := F'.cl }
  · intro p hp
    rcases List.mem_cons.mp hp with rfl | hp
    · exact ⟨o, Heap.get?_push_size h hf, hP⟩
    · exact F'.own p hp
  · intro a ha
    simp only [List.map_cons, List.mem_cons, List.mem_append] at ha
    rcases ha with rfl | ha | rfl | ha
    · exact F.gn _ (.head _)
    · exact F.gn _ (List.mem_cons_of_mem _ (List.mem_append.mpr (.inl ha)))
    · exact hg
    · exact F.gn _ (List.mem_cons_of_mem _ (List.mem_append.mpr (.inr ha)))
  · have hnd := F.nd
    simp only [List.map_cons, List.nodup_cons, List.mem_append, List.mem_cons, not_or, List.nodup_append] at hnd ⊢
    obtain ⟨⟨h1, h2⟩, h3, h4, h5⟩ := hnd
    refine ⟨⟨h1, ?_, h2⟩, h3, ⟨?_, h4⟩, ?_⟩
    · intro e; have := hz env.locals (.head _); rw [e] at this; exact Nat.lt_irrefl _ this
    · intro e; have := hz h.objs.size (List.mem_cons_of_mem _ (List.mem_append.mpr (.inr e))); exact Nat.lt_irrefl _ this
    · intro a ha b hb
      rcases hb with rfl | hb
      · rintro rfl; have := hz _ (List.mem_cons_of_mem _ (List.mem_append.mpr (.inl ha))); exact Nat.lt_irrefl _ this
      · exact h5 a ha b hb

theorem fresh_size (h : Heap) : h.get? h.objs.size = none := by
  cases e : h.get? h.objs.size with
  | none => rfl
  | some o => exact absurd (Heap.lt_size e) (Nat.lt_irrefl _)
theorem Fx.adopt {a : Addr} {o : Obj} {P : Obj → Prop} (F : Fx w mg mb g env V M h) (k : Sub h h') (ha : h.get? a = none) (e : h'.get? a = some o) (hP : P o) : Fx w mg mb g env V ((a, P) :: M) h' := by
  have F' := F.ext k
  have live : ∀ b ∈ env.locals :: (env.cells.map (·.2) ++ M.map (·.1)), ∃ o, h.get? b = some o := by
    obtain ⟨m, ⟨oL, _, _, hL, _⟩, _⟩ := F.vars
    intro b hb
    rcases List.mem_cons.mp hb with rfl | hb
    · exact ⟨_, hL⟩
    rcases List.mem_append.mp hb with hb | hb
    · obtain ⟨x, hx, rfl⟩ := List.mem_map.mp hb; obtain ⟨_, o, e, _⟩ := F.cl x hx; exact ⟨_, e⟩
    · obtain ⟨x, hx, rfl⟩ := List.mem_map.mp hb; obtain ⟨o, e, _⟩ := F.own x hx; exact ⟨_, e⟩
  have hne : ∀ b ∈ env.locals :: (env.cells.map (·.2) ++ M.map (·.1)), b ≠ a := fun b hb e' => by
    obtain ⟨o, e⟩ := live b hb; rw [e', ha] at e; cases e
  have hg : g.get? a = none := by
    cases e' : g.get? a with
    | none => rfl
    | some o' => have := F.keep _ _ e'; rw [ha] at this; cases this
  refine { F'.toRd with own := ?_, gn := ?_, nd := ?_, vn := F.vn, cl := F'.cl }
  · intro p hp
    rcases List.mem_cons.mp hp with rfl | hp
    · exact ⟨o, e, hP⟩
    · exact F'.own p hp
  · intro b hb
    simp only [List.map_cons, List.mem_cons, List.mem_append] at hb
    rcases hb with rfl | hb | rfl | hb
    · exact F.gn _ (.head _)
    · exact F.gn _ (List.mem_cons_of_mem _ (List.mem_append.mpr (.inl hb)))
    · exact hg
    · exact F.gn _ (List.mem_cons_of_mem _ (List.mem_append.mpr (.inr hb)))
  · have hnd := F.nd
    simp only [List.map_cons, List.nodup_cons, List.mem_append, List.mem_cons, not_or, List.nodup_append] at hnd ⊢
    obtain ⟨⟨h1, h2⟩, h3, h4, h5⟩ := hnd
    refine ⟨⟨h1, hne _ (.head _), h2⟩, h3, ⟨fun e => hne a (List.mem_cons_of_mem _ (List.mem_append.mpr (.inr e))) rfl, h4⟩, ?_⟩
    intro b hb c hc
    rcases hc with rfl | hc
    · exact hne b (List.mem_cons_of_mem _ (List.mem_append.mpr (.inl hb)))
    · exact h5 b hb c hc

theorem Fx.adopts (F : Fx w mg mb g env V M h) (k : Sub h h') (N : List (Addr × (Obj → Prop))) (hN : ∀ p ∈ N, h.get? p.1 = none ∧ ∃ o, h'.get? p.1 = some o ∧ p.2 o) (hd : (N.map (·.1)).Nodup) : Fx w mg mb g env V (N ++ M) h' := by
  have F' := F.ext k
  have live : ∀ b ∈ env.locals :: (env.cells.map (·.2) ++ M.map (·.1)), ∃ o, h.get? b = some o := by
    obtain ⟨m, ⟨oL, _, _, hL, _⟩, _⟩ := F.vars
    intro b hb
    rcases List.mem_cons.mp hb with rfl | hb
    · exact ⟨_, hL⟩
    rcases List.mem_append.mp hb with hb | hb
    · obtain ⟨x, hx, rfl⟩ := List.mem_map.mp hb; obtain ⟨_, o, e, _⟩ := F.cl x hx; exact ⟨_, e⟩
    · obtain ⟨x, hx, rfl⟩ := List.mem_map.mp hb; obtain ⟨o, e, _⟩ := F.own x hx; exact ⟨_, e⟩
  have hne : ∀ b ∈ env.locals :: (env.cells.map (·.2) ++ M.map (·.1)), b ∉ N.map (·.1) := fun b hb hm => by
    obtain ⟨p, hp, rfl⟩ := List.mem_map.mp hm
    obtain ⟨o, e⟩ := live _ hb; rw [(hN p hp).1] at e; cases e
  have hg : ∀ p ∈ N, g.get? p.1 = none := fun p hp => by
    cases e' : g.get? p.1 with
    | none => rfl
    | some o' => have := F.keep _ _ e'; rw [(hN p hp).1] at this; cases this
  refine { F'.toRd with own := ?_, gn := ?_, nd := ?_, vn := F.vn, cl := F'.cl }
  · intro p hp
    rcases List.mem_append.mp hp with hp | hp
    · exact (hN p hp).2
    · exact F'.own p hp
  · intro b hb
    simp only [List.map_append, List.mem_cons, List.mem_append] at hb
    rcases hb with rfl | hb | hb | hb
    · exact F.gn _ (.head _)
    · exact F.gn _ (List.mem_cons_of_mem _ (List.mem_append.mpr (.inl hb)))
    · obtain ⟨p, hp, rfl⟩ := List.mem_map.mp hb; exact hg p hp
    · exact F.gn _ (List.mem_cons_of_mem _ (List.mem_append.mpr (.inr hb)))
  · have hnd := F.nd
    simp only [List.map_append, List.nodup_cons, List.mem_append, not_or, List.nodup_append] at hnd ⊢
    obtain ⟨⟨h1, h2⟩, h3, h4, h5⟩ := hnd
    refine ⟨⟨h1, hne _ (.head _), h2⟩, h3, ⟨hd, h4, fun a ha b hb e => hne b (List.mem_cons_of_mem _ (List.mem_append.mpr (.inr hb))) (e ▸ ha)⟩, ?_⟩
    intro b hb c hc e
    rcases hc with hc | hc
    · exact hne b (List.mem_cons_of_mem _ (List.mem_append.mpr (.inl hb))) (e ▸ hc)
    · exact h5 b hb c hc e

noncomputable def frz (env : Env) (M : List (Addr × (Obj → Prop))) (h : Heap) : Heap := dropAt h (env.locals :: (env.cells.map (·.2) ++ M.map (·.1)))
theorem Fx.freeze (F : Fx w mg mb g env V M h) : Fx w mg mb (frz env M h) env V M h :=
  { fn := F.fn, gl := F.gl, bu := F.bu, keep := dropAt_sub _ _, vars := F.vars, own := F.own, gn := fun _ ha => dropAt_in ha, nd := F.nd, vn := F.vn, cl := F.cl,
    wd := F.wd.keeps fun b o e => dropAt_get (fun hb => by rw [F.gn b hb] at e; cases e) (F.keep b o e) }
theorem Fx.sub_frz (F : Fx w mg mb g env V M h) : Sub g (frz env M h) := fun b o e => dropAt_get (fun hb => by rw [F.gn b hb] at e; cases e) (F.keep b o e)
theorem Fx.frz_get (F : Fx w mg mb g env V M h) {a : Addr} {o : Obj} (e : h.get? a = some o) (ha : a ∉ env.locals :: (env.cells.map (·.2) ++ M.map (·.1))) : (frz env M h).get? a = some o := dropAt_get ha e
theorem Fx.new_out (F : Fx w mg mb g env V M h) {a : Addr} (ha : h.get? a = none) : a ∉ env.locals :: (env.cells.map (·.2) ++ M.map (·.1)) := by
  obtain ⟨m, ⟨o, _, _, hl, _⟩, _⟩ := F.vars
  intro hx
  rcases List.mem_cons.mp hx with rfl | hx
  · rw [ha] at hl; cases hl
  rcases List.mem_append.mp hx with hx | hx
  · obtain ⟨x, hx', rfl⟩ := List.mem_map.mp hx; obtain ⟨_, o, e, _⟩ := F.cl x hx'; rw [ha] at e; cases e
  · obtain ⟨x, hx', rfl⟩ := List.mem_map.mp hx; obtain ⟨o, e, _⟩ := F.own x hx'; rw [ha] at e; cases e

theorem Fx.forget (F : Fx w mg mb g env V M h) (hs : M'.Sublist M) : Fx w mg mb g env V M' h := by
  have hm : ∀ a ∈ env.locals :: (env.cells.map (·.2) ++ M'.map (·.1)), a ∈ env.locals :: (env.cells.map (·.2) ++ M.map (·.1)) := by
    intro a ha
    simp only [List.mem_cons, List.mem_append] at ha ⊢
    rcases ha with e | ha | ha
    · exact .inl e
    · exact .inr (.inl ha)
    · exact .inr (.inr ((hs.map _).subset ha))
  exact { F.toRd with own := (fun p hp => F.own p (hs.subset hp)), gn := (fun a ha => F.gn a (hm a ha)), vn := F.vn, cl := F.cl, nd := F.nd.sublist (List.Sublist.cons_cons _ (List.Sublist.append (List.Sublist.refl _) (hs.map _))) }
theorem Fx.behead {a : Addr} {P : Obj → Prop} (F : Fx w mg mb g env V ((a, P) :: M) h) (hk : Heap.ExtBut a h h') : Fx w mg mb g env V M h' := by
  have F₀ := F.forget (M' := M) (List.sublist_cons_self _ _)
  obtain ⟨m, hn, hv⟩ := F.vars
  have hag : g.get? a = none := F.gn a (List.mem_cons_of_mem _ (List.mem_append.mpr (.inr (.head _))))
  have hnd := F.nd
  simp only [List.map_cons, List.nodup_cons, List.mem_append, List.mem_cons, not_or, List.nodup_append] at hnd
  obtain ⟨⟨h1, h2, h2'⟩, h3, ⟨h4, h4'⟩, h5⟩ := hnd
  have hcell : ∀ c ∈ env.cells.map (·.2), c ≠ a := fun c hc => h5 c hc a (.inl rfl)
  exact { fn := F.fn, gl := F.gl, bu := F.bu, wd := F.wd, keep := fun b o e => hk b o (by rintro rfl; rw [hag] at e; cases e) (F.keep b o e),
          vars := ⟨m, hn.at' fun o e => hk _ o h2 e, fun p hp => (hv p hp).keeps fun c hc o e => hk c o (hcell c (mem_values_of_lookup hc)) e⟩,
          own := fun p hp => let ⟨o, ho, x⟩ := F₀.own p hp; ⟨o, hk _ o (fun e => h4 (e ▸ List.mem_map.mpr ⟨p, hp, rfl⟩)) ho, x⟩,
          gn := F₀.gn, nd := F₀.nd, vn := F₀.vn,
          cl := fun y hy => let ⟨v, o, c, d⟩ := F.cl y hy; ⟨v, o, hk _ o (hcell _ (List.mem_map.mpr ⟨y, hy, rfl⟩)) c, d⟩ }
theorem Fx.changes {mods : List Addr} (F : Fx w mg mb g env V M h) (hk : But mods h h') (hs : ∀ a ∈ mods, a ∈ M.map (·.1)) (he : M'.map (·.1) = M.map (·.1))
    (hM : ∀ p ∈ M', ∃ o, h'.get? p.1 = some o ∧ p.2 o) : Fx w mg mb g env V M' h' := by
  obtain ⟨m, hn, hv⟩ := F.vars
  have hnd := F.nd
  simp only [List.nodup_cons, List.mem_append, not_or, List.nodup_append] at hnd
  obtain ⟨⟨h1, h2⟩, h3, h4, h5⟩ := hnd
  have hg : ∀ b o, g.get? b = some o → b ∉ mods := fun b o e hb => by
    have := F.gn b (List.mem_cons_of_mem _ (List.mem_append.mpr (.inr (hs b hb)))); rw [e] at this; cases this
  exact { fn := F.fn, gl := F.gl, bu := F.bu, wd := F.wd, keep := fun b o e => hk b o (hg b o e) (F.keep b o e), own := hM, gn := by rw [he]; exact F.gn, nd := by rw [he]; exact F.nd, vn := F.vn,
          vars := ⟨m, hn.at' fun o e => hk _ o (fun hb => h2 (hs _ hb)) e, fun p hp => (hv p hp).keeps fun c hc o e => hk c o (fun hb => h5 _ (mem_values_of_lookup hc) _ (hs _ hb) rfl) e⟩,
          cl := fun x hx => let ⟨v, o, c, d⟩ := F.cl x hx; ⟨v, o, hk _ _ (fun hb => h5 _ (List.mem_map.mpr ⟨x, hx, rfl⟩) _ (hs _ hb) rfl) c, d⟩ }

theorem Fx.weaken (F : Fx w mg mb g env V M h) {a : Addr} {P : Obj → Prop} (hp : Put a P M M') (hi : ∀ Q, (a, Q) ∈ M → ∀ o, Q o → P o) : Fx w mg mb g env V M' h := by
  refine { F.toRd with own := ?_, gn := by rw [hp.keys]; exact F.gn, nd := by rw [hp.keys]; exact F.nd, vn := F.vn, cl := F.cl }
  have hnd := F.nd
  simp only [List.nodup_cons, List.mem_append, not_or, List.nodup_append] at hnd
  intro q hq
  rcases hp.mem hnd.2.2.1 q hq with rfl | ⟨_, hq⟩
  · obtain ⟨u, hu⟩ := hp.mid
    obtain ⟨o, ho, hx⟩ := F.own _ hu
    exact ⟨o, ho, hi u hu o hx⟩
  · exact F.own q hq
end

end Mine
end PBase
section PRules
open PySem PySem.W PyProof.Rows PySem.Calls
set_option Elab.async false
set_option linter.unusedVariables false
set_option maxRecDepth 100000
namespace Mine

noncomputable def upd (s : Shared) (h : Heap) (tk : Nat) : Shared := { s with heap := h, toks := tk }
theorem upd_self (s : Shared) : s = upd s s.heap s.toks := rfl

noncomputable def KeepF (w : World) (f : Value) : Prop := ∀ (M : Model) (h : Heap), (hd.heap_1 w.params).In h → ∃ k, (k = Keeper.frame ∨ k = Keeper.machine ∨ k = Keeper.boundFrame) ∧ Looks M h (keeperOf f) k
theorem keep_builtin {w : World} (id : String) : KeepF w (.builtin id) := fun _ _ _ => ⟨.machine, .inr (.inl rfl), .now⟩
theorem keep_fn {w : World} {a : Addr} (h : keepIn (hd.heap_1 w.params) (.ref a) = true) : KeepF w (.ref a) := fun _ _ X =>
  let ⟨k, x, y⟩ := looks_keep h X
  ⟨k, x.elim .inl fun e => .inr (.inl e), y⟩

noncomputable def GlobIs (w : World) (mg mb : Str → Option Value) (x : Str) (v : Value) : Prop := ∀ h, Wd w mg mb h → mg x = some v ∨ (mg x = none ∧ mb x = some v)
theorem glob_K {w : World} {mg mb : Str → Option Value} {x : Str} {v : Value} (e : nsIn (hd.heap_1 w.params) mainGlobals x = some (some v)) : GlobIs w mg mb x v := fun _ W => .inl (mg_of W.K W.T.g e)
theorem glob_B {w : World} {mg mb : Str → Option Value} {x : Str} {v : Value} (e : nsIn (hd.heap_1 w.params) mainGlobals x = some none) (hb : bootBuiltins x = some v) (hn : x ≠ "__name__") : GlobIs w mg mb x v := fun _ W =>
  .inr ⟨mg_none_of W.K W.T.g e, (W.T.builtins x hn).trans hb⟩

section
variable {w : World} {mg mb : Str → Option Value} {g h : Heap} {env : Env} {V V' : List (Str × Option Value)} {M : List (Addr × (Obj → Prop))}
variable {prog : Program} {A : Around} {E : Value → Shared → Prop} {s : Shared} {tk : Nat}

theorem loadV {MM : Model} {x : Str} {v : Value} {Q : Value → Shared → Prop} (F : Rd w mg mb g env V h) (hx : At x (some v) V) (q : Q v (upd s h tk)) : wpAny MM A (loadName env x) Q E (upd s h tk) := by
  obtain ⟨m, hn, hv⟩ := F.vars
  rcases hv _ hx.mem with ⟨a, b⟩ | ⟨a, c, b, d⟩
  · exact wpAny_loadName_local F.fn a hn b q
  · exact wpAny_loadName_cell F.fn a b d q
theorem ld {MM : Model} {x : Str} {pos : Pos} {v : Value} {Q : Value → Shared → Prop} (F : Rd w mg mb g env V h) (hx : At x (some v) V) (q : Q v (upd s h tk)) (hd : (x == ("__debug__" : Str)) = false := by decide) :
    wpAny MM A (eval (.Name x pos) env) Q E (upd s h tk) := wpAny_Name (loadV F hx q) hd
theorem ldg {MM : Model} {x : Str} {pos : Pos} {v : Value} {Q : Value → Shared → Prop} (F : Rd w mg mb g env V h) (hx : GlobIs w mg mb x v) (q : Q v (upd s h tk)) (hk : env.kindOf x = some .globalImplicit := by rfl) (hd : (x == ("__debug__" : Str)) = false := by decide) :
    wpAny MM A (eval (.Name x pos) env) Q E (upd s h tk) := by
  have W := F.wdh
  refine Name_function_global F.fn hk ?_ hd
  rcases hx h W with a | ⟨a, b⟩
  · exact loadGlobal_global (by rw [F.gl]; exact W.T.g) a q
  · exact loadGlobal_builtin (by rw [F.gl]; exact W.T.g) a (by rw [F.bu]; exact W.T.b) b q

theorem stB {MM : Model} {x : Str} {v : Value} {Q : Unit → Shared → Prop} (F : Fx w mg mb g env V M h) (hp : Put x (some v) V V') (q : ∀ h' tk', But (env.locals :: env.cells.map (·.2)) h h' → Fx w mg mb g env V' M h' → Q () (upd s h' tk')) :
    wpAny MM A (storeName env x v) Q E (upd s h tk) := by
  obtain ⟨m, hn, hv⟩ := F.vars
  obtain ⟨u, hu⟩ := hp.mid
  have hnd := F.nd
  simp only [List.nodup_cons, List.mem_append, not_or, List.nodup_append] at hnd
  obtain ⟨⟨hL1, hL2⟩, hC, hM, hCM⟩ := hnd
  rcases hv _ hu with ⟨a, b⟩ | ⟨a, c, b, d⟩
  · refine wpAny_storeName_local a hn (fun h' hn' hs' => ?_) (by rw [F.fn]; rfl)
    refine q h' _ (fun b' o n e => hs'.extBut b' o (fun e' => n (e' ▸ .head _)) e) { fn := F.fn, gl := F.gl, bu := F.bu, wd := F.wd, keep := fun b' o e => hs'.extBut b' o (fun e' => by have := F.gn env.locals (.head _); rw [← e', e] at this; cases this) (F.keep b' o e), vars := ⟨_, hn', ?_⟩, own := ?_, gn := F.gn, nd := F.nd, vn := by rw [hp.keys]; exact F.vn, cl := fun y hy => let ⟨v, o, c, d⟩ := F.cl y hy; ⟨v, o, hs'.extBut _ _ (fun e => hL1 (e ▸ List.mem_map.mpr ⟨y, hy, rfl⟩)) c, d⟩ }
    · intro p hp'
      rcases hp.mem F.vn p hp' with rfl | ⟨hne, hp'⟩
      · exact .inl ⟨a, by simp⟩
      · rcases hv p hp' with ⟨a', b'⟩ | ⟨a', c', b', o, d1, d2⟩
        · exact .inl ⟨a', by simp only [if_neg hne]; exact b'⟩
        · exact .inr ⟨a', c', b', o, hs'.extBut _ _ (fun e => hL1 (e ▸ mem_values_of_lookup b')) d1, d2⟩
    · intro p hp'
      obtain ⟨o, ho, hx⟩ := F.own p hp'
      exact ⟨o, hs'.extBut _ _ (fun e => hL2 (e ▸ List.mem_map.mpr ⟨p, hp', rfl⟩)) ho, hx⟩
  · have hcm := mem_values_of_lookup b
    have hcL : c ≠ env.locals := fun e => hL1 (e ▸ hcm)
    refine wpAny_storeName_cell F.fn a b d (fun h' hc' hs' => ?_)
    refine q h' _ (fun b' o n e => hs'.extBut b' o (fun e' => n (e' ▸ List.mem_cons_of_mem _ hcm)) e) { fn := F.fn, gl := F.gl, bu := F.bu, wd := F.wd, keep := fun b' o e => hs'.extBut b' o (fun e' => by have := F.gn c (List.mem_cons_of_mem _ (List.mem_append.mpr (.inl hcm))); rw [← e', e] at this; cases this) (F.keep b' o e), vars := ⟨m, hn.sameBut hs' (Ne.symm hcL), ?_⟩, own := ?_, gn := F.gn, nd := F.nd, vn := by rw [hp.keys]; exact F.vn, cl := fun y hy => if e : y.2 = c then ⟨_, e ▸ hc'⟩ else let ⟨v, o, c', d⟩ := F.cl y hy; ⟨v, o, hs'.extBut _ _ e c', d⟩ }
    · intro p hp'
      rcases hp.mem F.vn p hp' with rfl | ⟨hne, hp'⟩
      · exact .inr ⟨a, c, b, hc'⟩
      · rcases hv p hp' with ⟨a', b'⟩ | ⟨a', c', b', o, d1, d2⟩
        · exact .inl ⟨a', b'⟩
        · refine .inr ⟨a', c', b', o, hs'.extBut _ _ (fun e => hne ?_) d1, d2⟩
          subst e
          have hpw : env.cells.Pairwise fun x y => x.2 ≠ y.2 := List.pairwise_map.mp hC
          exact name_of_addr hpw (mem_of_lookup b') (mem_of_lookup b)
    · intro p hp'
      obtain ⟨o, ho, hx⟩ := F.own p hp'
      exact ⟨o, hs'.extBut _ _ (fun e => hCM _ hcm _ (List.mem_map.mpr ⟨p, hp', rfl⟩) e.symm) ho, hx⟩

theorem st {MM : Model} {x : Str} {v : Value} {Q : Unit → Shared → Prop} (F : Fx w mg mb g env V M h) (hp : Put x (some v) V V') (q : ∀ h' tk', Fx w mg mb g env V' M h' → Q () (upd s h' tk')) :
    wpAny MM A (storeName env x v) Q E (upd s h tk) := stB F hp fun h' tk' _ => q h' tk'

theorem kint {MM : Model} {i : Int} {k : Nat} {pos : Pos} {Q : Value → Shared → Prop} (q : ∀ t tk', Q (.int i t) (upd s h tk')) : wpAny MM A (eval (.Constant (.int i) k pos) env) Q E (upd s h tk) := wpAny_Constant_int (q _ _)
theorem knone {MM : Model} {k : Nat} {pos : Pos} {Q : Value → Shared → Prop} (q : Q .none (upd s h tk)) : wpAny MM A (eval (.Constant .none k pos) env) Q E (upd s h tk) := wpAny_Constant_none q
theorem kbool {MM : Model} {b : Bool} {k : Nat} {pos : Pos} {Q : Value → Shared → Prop} (q : Q (.bool b) (upd s h tk)) : wpAny MM A (eval (.Constant (.bool b) k pos) env) Q E (upd s h tk) := wpAny_Constant_bool q
theorem kstr {MM : Model} {x : Str} {k : Nat} {pos : Pos} {Q : Value → Shared → Prop} (q : ∀ t tk', Q (.str x t) (upd s h tk')) : wpAny MM A (eval (.Constant (.str x) k pos) env) Q E (upd s h tk) := wpAny_Constant_str (q _ _)

section
variable {a b : Int} {t u : Tok} {Q : Value → Shared → Prop}
theorem i_add (q : ∀ t tk', Q (.int (a + b) t) (upd s h tk')) : wpAny (model prog w) A (binaryOp .Add (.int a t) (.int b u)) Q E (upd s h tk) := PyProof.Rows.add_int (q _ _)
theorem i_sub (q : ∀ t tk', Q (.int (a - b) t) (upd s h tk')) : wpAny (model prog w) A (binaryOp .Sub (.int a t) (.int b u)) Q E (upd s h tk) := PyProof.Rows.sub_int (q _ _)
theorem i_mul (hm : IntMulOk a b) (q : ∀ t tk', Q (.int (a * b) t) (upd s h tk')) : wpAny (model prog w) A (binaryOp .Mult (.int a t) (.int b u)) Q E (upd s h tk) := PyProof.Rows.mul_int (q _ _) hm
theorem i_div (hb : b ≠ 0) (hy : Builtin.divisionGoesByPylong a b = false) (q : ∀ t tk', Q (.int (a.fdiv b) t) (upd s h tk')) : wpAny (model prog w) A (binaryOp .FloorDiv (.int a t) (.int b u)) Q E (upd s h tk) := PyProof.Rows.floordiv_int hb (q _ _) (.inl hy)
theorem i_mod (hb : b ≠ 0) (q : ∀ t tk', Q (.int (a.fmod b) t) (upd s h tk')) : wpAny (model prog w) A (binaryOp .Mod (.int a t) (.int b u)) Q E (upd s h tk) := PyProof.Rows.mod_int' hb (q _ _)
theorem i_iadd (q : ∀ t tk', Q (.int (a + b) t) (upd s h tk')) : wpAny (model prog w) A (inplaceOp .Add (.int a t) (.int b u)) Q E (upd s h tk) := wpAny_iadd_int (q _ _)
theorem c_lt (q : Q (.bool (decide (a < b))) (upd s h tk)) : wpAny (model prog w) A (compareOp .Lt (.int a t) (.int b u)) Q E (upd s h tk) := PyProof.Rows.lt_int q
theorem c_le (q : Q (.bool (decide (a ≤ b))) (upd s h tk)) : wpAny (model prog w) A (compareOp .LtE (.int a t) (.int b u)) Q E (upd s h tk) := PyProof.Rows.le_int q
theorem c_gt (q : Q (.bool (decide (b < a))) (upd s h tk)) : wpAny (model prog w) A (compareOp .Gt (.int a t) (.int b u)) Q E (upd s h tk) := PyProof.Rows.gt_int q
theorem c_ge (q : Q (.bool (decide (b ≤ a))) (upd s h tk)) : wpAny (model prog w) A (compareOp .GtE (.int a t) (.int b u)) Q E (upd s h tk) := PyProof.Rows.ge_int q
theorem c_eq (q : Q (.bool (a == b)) (upd s h tk)) : wpAny (model prog w) A (compareOp .Eq (.int a t) (.int b u)) Q E (upd s h tk) := PyProof.Rows.eq_int q
theorem c_ne (q : Q (.bool (a != b)) (upd s h tk)) : wpAny (model prog w) A (compareOp .NotEq (.int a t) (.int b u)) Q E (upd s h tk) := PyProof.Rows.ne_int q
theorem c_isn {v : Value} (q : Q (.bool (v == .none)) (upd s h tk)) : wpAny (model prog w) A (compareOp .Is v .none) Q E (upd s h tk) := is_none q
theorem c_tb {b : Bool} {Q : Bool → Shared → Prop} (q : Q b (upd s h tk)) : wpAny (model prog w) A (truthy (.bool b)) Q E (upd s h tk) := wpAny_truthy_bool q
end

noncomputable def Seq (MM : Model) (A : Around) (E : Value → Shared → Prop) (env : Env) (rest : List Stmt) (Q : Flow → Shared → Prop) : Flow → Shared → Prop
  | .next, s => wpAny MM A (execs rest env) Q E s
  | f, s => Q f s
section
variable {MM : Model} {rest : List Stmt} {Q : Flow → Shared → Prop} {s' : Shared}
theorem Seq.nxt (q : wpAny MM A (execs rest env) Q E s') : Seq MM A E env rest Q .next s' := q
theorem Seq.ret {v : Value} (q : Q (.ret v) s') : Seq MM A E env rest Q (.ret v) s' := q
theorem Seq.brk (q : Q .brk s') : Seq MM A E env rest Q .brk s' := q
theorem Seq.cont (q : Q .cont s') : Seq MM A E env rest Q .cont s' := q
theorem x_cons {st : Stmt} (q : wpAny MM A (exec st env) (Seq MM A E env rest Q) E s') : wpAny MM A (execs (st :: rest) env) Q E s' :=
  wpAny_execs_cons (wpAny_mono q (fun f _ x => by cases f <;> exact x) fun _ _ e => e)
theorem x_nil (q : Q .next s') : wpAny MM A (execs [] env) Q E s' := wpAny_execs_nil q
theorem x_last {st : Stmt} (q : wpAny MM A (exec st env) Q E s') : wpAny MM A (execs [st] env) Q E s' :=
  wpAny_execs_cons (wpAny_mono q (fun f _ x => by cases f <;> first | exact wpAny_execs_nil x | exact x) fun _ _ e => e)
theorem x_assign {x : Str} {p pos : Pos} {value : Expr} (q : wpAny MM A (eval value env) (fun v s₁ => wpAny MM A (storeName env x v) (fun _ s₂ => wpAny MM A (execs rest env) Q E s₂) E s₁) E s')
    (hs : swapsWith value (some (.Name x p)) pos.line env = pure false := by rfl) : wpAny MM A (execs (.Assign [.Name x p] value pos :: rest) env) Q E s' :=
  wpAny_execs_cons (wpAny_Assign_Name q hs)
theorem x_ret {e : Expr} {pos : Pos} (q : wpAny MM A (eval e env) (fun v s₁ => Q (.ret v) s₁) E s') : wpAny MM A (execs (.Return (some e) pos :: rest) env) Q E s' :=
  wpAny_execs_cons (wpAny_Return_some (wpAny_mono q (fun _ _ x => x) fun _ _ e => e))
theorem x_cont {pos : Pos} (q : Q .cont s') : wpAny MM A (execs (.Continue pos :: rest) env) Q E s' := wpAny_execs_cons (wpAny_Continue q)
noncomputable def Ways (T F : Shared → Prop) : Bool → Shared → Prop
  | true, s => T s
  | false, s => F s
theorem Ways.of {T F : Shared → Prop} {b : Bool} (ht : b = true → T s') (hf : b = false → F s') : Ways T F b s' := by cases b; exact hf rfl; exact ht rfl
theorem Ways.yes {T F : Shared → Prop} {b : Bool} (e : b = true) (h : T s') : Ways T F b s' := by subst e; exact h
theorem Ways.no {T F : Shared → Prop} {b : Bool} (e : b = false) (h : F s') : Ways T F b s' := by subst e; exact h
theorem x_if {test : Expr} {body orelse : List Stmt} {pos : Pos}
    (q : wpAny MM A (isTrue test env (eval test env)) (Ways (fun s₂ => wpAny MM A (execs body env) (Seq MM A E env rest Q) E s₂) (fun s₂ => wpAny MM A (execs orelse env) (Seq MM A E env rest Q) E s₂)) E s') :
    wpAny MM A (execs (.If test body orelse pos :: rest) env) Q E s' :=
  x_cons (wpAny_If (wpAny_mono q (fun b _ x => by cases b <;> exact x) fun _ _ e => e))
theorem x_if1 {test : Expr} {body : List Stmt} {pos : Pos}
    (q : wpAny MM A (isTrue test env (eval test env)) (Ways (fun s₂ => wpAny MM A (execs body env) (Seq MM A E env rest Q) E s₂) (fun s₂ => wpAny MM A (execs rest env) Q E s₂)) E s') :
    wpAny MM A (execs (.If test body [] pos :: rest) env) Q E s' :=
  x_if (wpAny_mono q (fun b _ x => by cases b <;> first | exact wpAny_execs_nil x | exact x) fun _ _ e => e)
theorem e_if {test body orelse : Expr} {pos : Pos} {Q : Value → Shared → Prop}
    (q : wpAny MM A (isTrue test env (eval test env)) (Ways (fun s₂ => wpAny MM A (eval body env) Q E s₂) (fun s₂ => wpAny MM A (eval orelse env) Q E s₂)) E s') : wpAny MM A (eval (.IfExp test body orelse pos) env) Q E s' :=
  wpAny_IfExp (wpAny_mono q (fun b _ x => by cases b <;> exact x) fun _ _ e => e)
end
theorem Ways.dec {T F : Shared → Prop} {p : Prop} [Decidable p] {s' : Shared} (ht : p → T s') (hf : ¬ p → F s') : Ways T F (decide p) s' := Ways.of (fun e => ht (of_decide_eq_true e)) fun e => hf (of_decide_eq_false e)
theorem Ways.beq {T F : Shared → Prop} {a b : Int} {s' : Shared} (ht : a = b → T s') (hf : a ≠ b → F s') : Ways T F (a == b) s' := Ways.of (fun e => ht (beq_iff_eq.mp e)) fun e => hf (by simpa using e)
theorem Ways.bne {T F : Shared → Prop} {a b : Int} {s' : Shared} (ht : a ≠ b → T s') (hf : a = b → F s') : Ways T F (a != b) s' := Ways.of (fun e => ht (by simpa using e)) fun e => hf (by simpa using e)
theorem e_or2 {MM : Model} {x y : Expr} {pos : Pos} {Q : Value → Shared → Prop} {s' : Shared} (q : wpAny MM A (eval x env) (fun v s₁ => wpAny MM A (truthy v) (Ways (fun s₂ => Q v s₂) (fun s₂ => wpAny MM A (eval y env) Q E s₂)) E s₁) E s') : wpAny MM A (eval (.BoolOp .Or [x, y] pos) env) Q E s' :=
  wpAny_Or2 (wpAny_mono q (fun _ _ h => wpAny_mono h (fun b _ h' => by cases b <;> exact h') fun _ _ e => e) fun _ _ e => e)
theorem e_and2 {MM : Model} {x y : Expr} {pos : Pos} {Q : Value → Shared → Prop} {s' : Shared} (q : wpAny MM A (eval x env) (fun v s₁ => wpAny MM A (truthy v) (Ways (fun s₂ => wpAny MM A (eval y env) Q E s₂) (fun s₂ => Q v s₂)) E s₁) E s') : wpAny MM A (eval (.BoolOp .And [x, y] pos) env) Q E s' :=
  wpAny_And2 (wpAny_mono q (fun _ _ h => wpAny_mono h (fun b _ h' => by cases b <;> exact h') fun _ _ e => e) fun _ _ e => e)
section
variable {MM : Model} {Q : Bool → Shared → Prop} {s' : Shared}
theorem t_cmp {l r : Expr} {op : CmpOp} {pos : Pos} {whole : Sem Value}
    (q : wpAny MM A (eval l env) (fun a s₁ => wpAny MM A (eval r env) (fun b s₂ => wpAny MM A (compareOp op a b) (fun c s₃ => wpAny MM A (truthy c) Q E s₃) E s₂) E s₁) E s')
    (hm : behindInMarks op r = false := by with_unfolding_all rfl) : wpAny MM A (isTrue (.Compare l [op] [r] pos) env whole) Q E s' := wpAny_isTrue_Compare1 q hm
theorem t_not {x : Expr} {pos : Pos} {whole : Sem Value} (q : wpAny MM A (isTrue x env (eval x env)) (fun b s₁ => Q (!b) s₁) E s') : wpAny MM A (isTrue (.UnaryOp .Not x pos) env whole) Q E s' := wpAny_isTrue_Not q
theorem t_bool {op : BoolOp} {values : List Expr} {pos : Pos} {whole : Sem Value} (q : wpAny MM A (allTrue op values env) Q E s') : wpAny MM A (isTrue (.BoolOp op values pos) env whole) Q E s' := wpAny_isTrue_BoolOp q
theorem t_and {x : Expr} {rest : List Expr} (q : wpAny MM A (isTrue x env (eval x env)) (Ways (fun s₁ => wpAny MM A (allTrue .And rest env) Q E s₁) (fun s₁ => Q false s₁)) E s') : wpAny MM A (allTrue .And (x :: rest) env) Q E s' :=
  wpAny_allTrue_And_cons (wpAny_mono q (fun b _ x => by cases b <;> exact x) fun _ _ e => e)
theorem t_or {x : Expr} {rest : List Expr} (q : wpAny MM A (isTrue x env (eval x env)) (Ways (fun s₁ => Q true s₁) (fun s₁ => wpAny MM A (allTrue .Or rest env) Q E s₁)) E s') : wpAny MM A (allTrue .Or (x :: rest) env) Q E s' :=
  wpAny_allTrue_Or_cons (wpAny_mono q (fun b _ x => by cases b <;> exact x) fun _ _ e => e)
theorem t_and0 (q : Q true s') : wpAny MM A (allTrue .And [] env) Q E s' := wpAny_allTrue_And_nil q
theorem t_or0 (q : Q false s') : wpAny MM A (allTrue .Or [] env) Q E s' := wpAny_allTrue_Or_nil q
theorem t_val {e : Expr} {whole : Sem Value} (q : wpAny MM A whole (fun v s₁ => wpAny MM A (truthy v) Q E s₁) E s') (he : isTrue e env whole = (do let v ← whole; standAt e.pos; holding [v] (truthy v)) := by rfl) : wpAny MM A (isTrue e env whole) Q E s' := wpAny_isTrue_value q he
end
section
variable {MM : Model} {s' : Shared} {pos : Pos}
theorem e_chain {l : Expr} {op₁ op₂ : CmpOp} {r₁ r₂ : Expr} {Q : Value → Shared → Prop} (q : wpAny MM A (eval l env) (fun a s₁ => wpAny MM A (compareChain pos a [op₁, op₂] [eval r₁ env, eval r₂ env]) Q E s₁) E s') (hm : lastMarks [op₁, op₂] [r₁, r₂] = false := by with_unfolding_all rfl) :
    wpAny MM A (eval (.Compare l [op₁, op₂] [r₁, r₂] pos) env) Q E s' := Compare_chain q hm
theorem t_chain {l : Expr} {op₁ op₂ : CmpOp} {r₁ r₂ : Expr} {whole : Sem Value} {Q : Bool → Shared → Prop} (q : wpAny MM A (eval l env) (fun a s₁ => wpAny MM A (testChain pos a [op₁, op₂] [eval r₁ env, eval r₂ env]) Q E s₁) E s') (hm : lastMarks [op₁, op₂] [r₁, r₂] = false := by with_unfolding_all rfl) :
    wpAny MM A (isTrue (.Compare l [op₁, op₂] [r₁, r₂] pos) env whole) Q E s' := isTrue_chain q hm
theorem ch_link {a : Value} {op op' : CmpOp} {ops : List CmpOp} {r r' : Sem Value} {rs : List (Sem Value)} {Q : Value → Shared → Prop} (q : wpAny MM A r (fun b s₁ => wpAny MM A (compareOp op a b) (fun c s₂ => wpAny MM A (truthy c) (Ways (fun s₃ => wpAny MM A (compareChain pos b (op' :: ops) (r' :: rs)) Q E s₃) (fun s₃ => Q c s₃)) E s₂) E s₁) E s') :
    wpAny MM A (compareChain pos a (op :: op' :: ops) (r :: r' :: rs)) Q E s' :=
  chain_link (wpAny_mono q (fun _ _ h => wpAny_mono h (fun _ _ h => wpAny_mono h (fun b _ x => by cases b <;> exact x) fun _ _ e => e) fun _ _ e => e) fun _ _ e => e)
theorem ch_last {a : Value} {op : CmpOp} {r : Sem Value} {Q : Value → Shared → Prop} (q : wpAny MM A r (fun b s₁ => wpAny MM A (compareOp op a b) Q E s₁) E s') : wpAny MM A (compareChain pos a [op] [r]) Q E s' := chain_last q
theorem tc_link {a : Value} {op op' : CmpOp} {ops : List CmpOp} {r r' : Sem Value} {rs : List (Sem Value)} {Q : Bool → Shared → Prop} (q : wpAny MM A r (fun b s₁ => wpAny MM A (compareOp op a b) (fun c s₂ => wpAny MM A (truthy c) (Ways (fun s₃ => wpAny MM A (testChain pos b (op' :: ops) (r' :: rs)) Q E s₃) (fun s₃ => Q false s₃)) E s₂) E s₁) E s') :
    wpAny MM A (testChain pos a (op :: op' :: ops) (r :: r' :: rs)) Q E s' :=
  test_link (wpAny_mono q (fun _ _ h => wpAny_mono h (fun _ _ h => wpAny_mono h (fun b _ x => by cases b <;> exact x) fun _ _ e => e) fun _ _ e => e) fun _ _ e => e)
theorem tc_last {a : Value} {op : CmpOp} {r : Sem Value} {Q : Bool → Shared → Prop} (q : wpAny MM A r (fun b s₁ => wpAny MM A (compareOp op a b) (fun c s₂ => wpAny MM A (truthy c) Q E s₂) E s₁) E s') : wpAny MM A (testChain pos a [op] [r]) Q E s' := test_last q
end
section
variable {id : Str} {p pos : Pos} {f : Value} {Q : Value → Shared → Prop}
theorem kin (F : Rd w mg mb g env V h) : (hd.heap_1 w.params).In (upd s h tk).heap := F.wdh.K
theorem call_any {args : List Expr} {x : Sem Value} {r : List (Bool × Sem Value)} (F : Rd w mg mb g env V h) (hx : GlobIs w mg mb id f) (hk : KeepF w f)
    (q : wpAny (model prog w) A (spliced (backTo pos (starEach args env))) (fun vs s₁ => (hd.heap_1 w.params).In s₁.heap ∧ wpAny (model prog w) A (call f vs) Q E s₁) E (upd s h tk))
    (he : backTo pos (starEach args env) = (false, x) :: r) (hp : r.any (·.1) = false)
    (hkd : env.kindOf id = some .globalImplicit) (hdd : (id == ("__debug__" : Str)) = false) :
    wpAny (model prog w) A (eval (.Call (.Name id p) args [] pos) env) Q E (upd s h tk) := by
  refine wpAny_Call_NameR (ldg F hx ?_ hkd hdd)
  refine callWith_of (P := fun h => (hd.heap_1 w.params).In h) (by rw [he]; simp [hp]) (fun h X => hk _ h X) ?_
  rw [he] at q ⊢
  exact evalArgs_plain q
theorem call1 {a : Expr} (F : Rd w mg mb g env V h) (hx : GlobIs w mg mb id f) (hk : KeepF w f)
    (q : wpAny (model prog w) A (eval a env) (fun v s₁ => (hd.heap_1 w.params).In s₁.heap ∧ wpAny (model prog w) A (call f [v]) Q E s₁) E (upd s h tk))
    (e1 : ∀ rest, starEach (a :: rest) env = (false, eval a env) :: starEach rest env := by intro _; rfl)
    (hkd : env.kindOf id = some .globalImplicit := by rfl) (hdd : (id == ("__debug__" : Str)) = false := by decide) :
    wpAny (model prog w) A (eval (.Call (.Name id p) [a] [] pos) env) Q E (upd s h tk) :=
  call_any F hx hk (wpAny_items_cons (wpAny_mono q (fun _ _ x => wpAny_items_nil x) fun _ _ e => e) (e1 _)) (by rw [e1]; rfl) rfl hkd hdd
theorem call2 {a b : Expr} (F : Rd w mg mb g env V h) (hx : GlobIs w mg mb id f) (hk : KeepF w f)
    (q : wpAny (model prog w) A (eval a env) (fun v s₁ => wpAny (model prog w) A (eval b env) (fun u s₂ => (hd.heap_1 w.params).In s₂.heap ∧ wpAny (model prog w) A (call f [v, u]) Q E s₂) E s₁) E (upd s h tk))
    (e1 : ∀ rest, starEach (a :: rest) env = (false, eval a env) :: starEach rest env := by intro _; rfl)
    (e2 : ∀ rest, starEach (b :: rest) env = (false, eval b env) :: starEach rest env := by intro _; rfl)
    (hkd : env.kindOf id = some .globalImplicit := by rfl) (hdd : (id == ("__debug__" : Str)) = false := by decide) :
    wpAny (model prog w) A (eval (.Call (.Name id p) [a, b] [] pos) env) Q E (upd s h tk) :=
  call_any F hx hk (wpAny_items_cons (wpAny_mono q (fun _ _ x => wpAny_items_cons (wpAny_mono x (fun _ _ y => wpAny_items_nil y) fun _ _ e => e) (e2 _)) fun _ _ e => e) (e1 _)) (by rw [e1]; rfl) (by show (backTo pos (starEach [b] env)).any _ = false; rw [e2]; rfl) hkd hdd
theorem call3 {a b c : Expr} (F : Rd w mg mb g env V h) (hx : GlobIs w mg mb id f) (hk : KeepF w f)
    (q : wpAny (model prog w) A (eval a env) (fun v s₁ => wpAny (model prog w) A (eval b env) (fun u s₂ => wpAny (model prog w) A (eval c env) (fun x s₃ => (hd.heap_1 w.params).In s₃.heap ∧ wpAny (model prog w) A (call f [v, u, x]) Q E s₃) E s₂) E s₁) E (upd s h tk))
    (e1 : ∀ rest, starEach (a :: rest) env = (false, eval a env) :: starEach rest env := by intro _; rfl)
    (e2 : ∀ rest, starEach (b :: rest) env = (false, eval b env) :: starEach rest env := by intro _; rfl)
    (e3 : ∀ rest, starEach (c :: rest) env = (false, eval c env) :: starEach rest env := by intro _; rfl)
    (hkd : env.kindOf id = some .globalImplicit := by rfl) (hdd : (id == ("__debug__" : Str)) = false := by decide) :
    wpAny (model prog w) A (eval (.Call (.Name id p) [a, b, c] [] pos) env) Q E (upd s h tk) :=
  call_any F hx hk (wpAny_items_cons (wpAny_mono q (fun _ _ x => wpAny_items_cons (wpAny_mono x (fun _ _ y => wpAny_items_cons (wpAny_mono y (fun _ _ z => wpAny_items_nil z) fun _ _ e => e) (e3 _)) fun _ _ e => e) (e2 _)) fun _ _ e => e) (e1 _)) (by rw [e1]; rfl)
    (by show (backTo pos (starEach [b, c] env)).any _ = false; rw [e2, e3]; rfl) hkd hdd
theorem call4 {a b c d : Expr} (F : Rd w mg mb g env V h) (hx : GlobIs w mg mb id f) (hk : KeepF w f)
    (q : wpAny (model prog w) A (eval a env) (fun v s₁ => wpAny (model prog w) A (eval b env) (fun u s₂ => wpAny (model prog w) A (eval c env) (fun x s₃ => wpAny (model prog w) A (eval d env) (fun y s₄ => (hd.heap_1 w.params).In s₄.heap ∧ wpAny (model prog w) A (call f [v, u, x, y]) Q E s₄) E s₃) E s₂) E s₁) E (upd s h tk))
    (e1 : ∀ rest, starEach (a :: rest) env = (false, eval a env) :: starEach rest env := by intro _; rfl)
    (e2 : ∀ rest, starEach (b :: rest) env = (false, eval b env) :: starEach rest env := by intro _; rfl)
    (e3 : ∀ rest, starEach (c :: rest) env = (false, eval c env) :: starEach rest env := by intro _; rfl)
    (e4 : ∀ rest, starEach (d :: rest) env = (false, eval d env) :: starEach rest env := by intro _; rfl)
    (hkd : env.kindOf id = some .globalImplicit := by rfl) (hdd : (id == ("__debug__" : Str)) = false := by decide) :
    wpAny (model prog w) A (eval (.Call (.Name id p) [a, b, c, d] [] pos) env) Q E (upd s h tk) :=
  call_any F hx hk (wpAny_items_cons (wpAny_mono q (fun _ _ x => wpAny_items_cons (wpAny_mono x (fun _ _ y => wpAny_items_cons (wpAny_mono y (fun _ _ z => wpAny_items_cons (wpAny_mono z (fun _ _ z => wpAny_items_nil z) fun _ _ e => e) (e4 _)) fun _ _ e => e) (e3 _)) fun _ _ e => e) (e2 _)) fun _ _ e => e) (e1 _)) (by rw [e1]; rfl)
    (by show (backTo pos (starEach [b, c, d] env)).any _ = false; rw [e2, e3, e4]; rfl) hkd hdd
theorem call5 {a b c d f₅ : Expr} (F : Rd w mg mb g env V h) (hx : GlobIs w mg mb id f) (hk : KeepF w f)
    (q : wpAny (model prog w) A (eval a env) (fun v s₁ => wpAny (model prog w) A (eval b env) (fun u s₂ => wpAny (model prog w) A (eval c env) (fun x s₃ => wpAny (model prog w) A (eval d env) (fun y s₄ => wpAny (model prog w) A (eval f₅ env) (fun z s₅ => (hd.heap_1 w.params).In s₅.heap ∧ wpAny (model prog w) A (call f [v, u, x, y, z]) Q E s₅) E s₄) E s₃) E s₂) E s₁) E (upd s h tk))
    (e1 : ∀ rest, starEach (a :: rest) env = (false, eval a env) :: starEach rest env := by intro _; rfl)
    (e2 : ∀ rest, starEach (b :: rest) env = (false, eval b env) :: starEach rest env := by intro _; rfl)
    (e3 : ∀ rest, starEach (c :: rest) env = (false, eval c env) :: starEach rest env := by intro _; rfl)
    (e4 : ∀ rest, starEach (d :: rest) env = (false, eval d env) :: starEach rest env := by intro _; rfl)
    (e5 : ∀ rest, starEach (f₅ :: rest) env = (false, eval f₅ env) :: starEach rest env := by intro _; rfl)
    (hkd : env.kindOf id = some .globalImplicit := by rfl) (hdd : (id == ("__debug__" : Str)) = false := by decide) :
    wpAny (model prog w) A (eval (.Call (.Name id p) [a, b, c, d, f₅] [] pos) env) Q E (upd s h tk) :=
  call_any F hx hk (wpAny_items_cons (wpAny_mono q (fun _ _ x => wpAny_items_cons (wpAny_mono x (fun _ _ y => wpAny_items_cons (wpAny_mono y (fun _ _ z => wpAny_items_cons (wpAny_mono z (fun _ _ z => wpAny_items_cons (wpAny_mono z (fun _ _ z => wpAny_items_nil z) fun _ _ e => e) (e5 _)) fun _ _ e => e) (e4 _)) fun _ _ e => e) (e3 _)) fun _ _ e => e) (e2 _)) fun _ _ e => e) (e1 _)) (by rw [e1]; rfl)
    (by show (backTo pos (starEach [b, c, d, f₅] env)).any _ = false; rw [e2, e3, e4, e5]; rfl) hkd hdd
end
end
end Mine
end PRules
section PEnter
open PySem PySem.W PyProof.Rows PySem.Calls
set_option Elab.async false
set_option linter.unusedVariables false
set_option maxRecDepth 100000
namespace Mine

theorem upd_upd (s : Shared) (h h' : Heap) (t t' : Nat) : upd (upd s h t) h' t' = upd s h' t' := rfl

noncomputable def VarAt (fd : FuncData) (L a : Addr) (binds : List (Str × Value)) (x : Str) (v : Option Value) : Prop :=
  ((callEnvC fd L a).kindOf x = some .local ∧ bindL (callEnvC fd L a).kindOf binds (fun _ => none) x = v) ∨
  ((callEnvC fd L a).kindOf x = some .cell ∧ (∃ c, (callEnvC fd L a).cells.lookup x = some c) ∧ bindC (callEnvC fd L a).kindOf binds (fun _ => none) x = v)

noncomputable def Post (s : Shared) (h : Heap) (as : List Addr) (P : Value → Heap → Prop) (v : Value) (s' : Shared) : Prop :=
  ∃ h' tk', s' = upd s h' tk' ∧ But as h h' ∧ P v h'

theorem cells_names : ∀ (names : List (Str × NameKind)) (n k : Nat) (acc acc' : List (Str × Addr)), acc.map (·.1) = acc'.map (·.1) → (cellsFrom n names acc).map (·.1) = (cellsFrom k names acc').map (·.1)
  | [], _, _, _, _, h => h
  | (x, kd) :: r, n, k, acc, acc', h => by
    unfold cellsFrom
    split
    · exact cells_names r _ _ _ _ (by simp [h])
    · exact cells_names r _ _ _ _ h
theorem lookup_of_mem : ∀ {l : List (Str × Addr)} {x : Str × Addr}, (l.map (·.1)).Nodup → x ∈ l → l.lookup x.1 = some x.2
  | y :: r, x, hn, hx => by
    simp only [List.map_cons, List.nodup_cons] at hn
    rw [List.lookup_cons]
    rcases List.mem_cons.mp hx with rfl | hx
    · simp
    · have : (x.1 == y.1) = false := by
        cases e : x.1 == y.1 with
        | false => rfl
        | true => exact absurd (List.mem_map.mpr ⟨x, hx, beq_iff_eq.mp e⟩) hn.1
      simp only [this]
      exact lookup_of_mem hn.2 hx

theorem int_eq {a b : Int} {t : Tok} (e : a = b) : ∃ u, Value.int a t = .int b u := ⟨t, by rw [e]⟩
noncomputable def Back (Q : Value → Shared → Prop) : Flow → Shared → Prop
  | .ret v, s => Q v s
  | _, s => Q .none s
theorem Back.r {Q : Value → Shared → Prop} {v : Value} {s : Shared} (q : Q v s) : Back Q (.ret v) s := q
theorem Back.n {Q : Value → Shared → Prop} {s : Shared} (q : Q .none s) : Back Q .next s := q
theorem Post.mk' {s : Shared} {h h' : Heap} {as : List Addr} {P : Value → Heap → Prop} {v : Value} {tk' : Nat} (k : But as h h') (p : P v h') : Post s h as P v (upd s h' tk') := ⟨h', tk', rfl, k, p⟩

section
variable {w : World} {mg mb : Str → Option Value} {prog : Program} {A : Around} {s : Shared} {h g₀ : Heap} {tk n : Nat}

theorem Rd.but {mods : List Addr} {g h' : Heap} {env : Env} {V : List (Str × Option Value)} (F : Rd w mg mb g env V h') (hg : ∀ b o, b ∉ mods → h.get? b = some o → g.get? b = some o) : But mods h h' := fun b o n e => F.keep b o (hg b o n e)

theorem enterC {RR : Result → Shared → Prop} {Q : Value → Shared → Prop} (hRR : ∀ v s', Q v s' → RR (.ok (.ret v)) s') {a : Addr} {fd : FuncData} {oc : Value} {od : Option Addr} {osl : Array (Option Value)} {body : List Stmt} {vals : List Value} {binds : List (Str × Value)} {V : List (Str × Option Value)} {M : List (Addr × (Obj → Prop))}
    (R : Room (n + 1) A) (W : Wd w mg mb g₀) (k₀ : Sub g₀ h)
    (ho : (hd.heap_1 w.params).lookup a = some ⟨oc, od, .func fd, osl⟩)
    (hcd : codeIn (hd.heap_1 w.params) fd.code fd.qualname = true) (hbody : fd.body = .stmts body) (hbind : bindArgs fd ⟨vals, []⟩ = pure binds) (hclo : fd.closure = [])
    (hgl : fd.globals = mainGlobals) (hbu : fd.builtins = builtinsNs)
    (hkind : (binds.all fun y => fd.scope.names.lookup y.1 == some .local || fd.scope.names.lookup y.1 == some .cell) = true) (hcn : ((cellsFrom 0 fd.scope.names []).map (·.1)).Nodup)
    (hco : fd.scope.isCoroutine = false) (hgen : fd.scope.isGenerator = false) (hk : fd.scope.kind = .function)
    (hV : ∀ L, ∀ p ∈ V, VarAt fd L a binds p.1 p.2) (hVn : (V.map (·.1)).Nodup)
    (hM : ∀ p ∈ M, (∃ o, h.get? p.1 = some o ∧ p.2 o) ∧ g₀.get? p.1 = none) (hMn : (M.map (·.1)).Nodup)
    (q : ∀ L h₁ tk₁ g, Sub g₀ g → (∀ b o, b ∉ M.map (·.1) → h.get? b = some o → g.get? b = some o) → h.objs.size ≤ L → (∀ x ∈ (callEnvC fd L a).cells, h.get? x.2 = none) → h.get? L = none → Fx w mg mb g (callEnvC fd L a) V M h₁ → Room n (A.deeper (callEnvC fd L a)) →
      wpAny (model prog w) (A.deeper (callEnvC fd L a)) (execs body (callEnvC fd L a)) (Back Q) (fun _ _ => False) (upd s h₁ tk₁)) :
    codeAny (model prog w) A (.call (.ref a) ⟨vals, []⟩) RR (upd s h tk) := by
  have W' : Wd w mg mb h := W.keeps k₀
  refine codeAny_call_cells (s := upd s h tk) R.lt (W'.K _ _ ho) rfl W'.T.nolimit (codeRec_of W'.K hcd) hbody hbind hclo (kindsX hkind _) (fun s₁ X => ?_) hco hgen hk
  obtain ⟨h₁, tk₁, rfl⟩ := X.toInCall.same
  refine wpAny_mono (q h.objs.size h₁ tk₁ (dropAt h (M.map (·.1))) ?_ ?_ (Nat.le_refl _) ?_ ?_ ?_ (R.deeper _)) (fun f s' x => ?_) fun _ _ e => e.elim
  · exact fun b o e => dropAt_get (fun hb => by obtain ⟨p, hp, rfl⟩ := List.mem_map.mp hb; rw [(hM p hp).2] at e; cases e) (k₀ b o e)
  · exact fun b o hb e => dropAt_get hb e
  · intro x hx
    have hlt := X.above x.1 x.2 hx
    have : (upd s h tk).heap.objs.size ≤ _ := X.toInCall.fresh
    cases e : h.get? x.2 with
    | none => rfl
    | some o => exact absurd (Nat.lt_of_le_of_lt this hlt) (Nat.not_lt.mpr (Nat.le_of_lt (Heap.lt_size e)))
  · cases e : h.get? h.objs.size with
    | none => rfl
    | some o => exact absurd (Heap.lt_size e) (Nat.lt_irrefl _)
  · have keep : Sub h h₁ := X.toInCall.keep
    have hns := X.toInCall.ns
    have live : ∀ x ∈ (callEnvC fd h.objs.size a).cells, ∃ v, h₁.IsCell x.2 v := by
      intro x hx
      exact ⟨_, X.cell x.1 x.2 (lookup_of_mem ((cells_names fd.scope.names (h.objs.size + 1) 0 [] [] rfl).symm ▸ hcn) hx)⟩
    have fresh : ∀ b ∈ (callEnvC fd h.objs.size a).locals :: ((callEnvC fd h.objs.size a).cells.map (·.2)), h.get? b = none := by
      intro b hb
      cases e : h.get? b with
      | none => rfl
      | some o =>
        have hlt := Heap.lt_size e
        rcases List.mem_cons.mp hb with rfl | hb
        · exact absurd hlt (Nat.lt_irrefl _)
        · obtain ⟨x, hx, rfl⟩ := List.mem_map.mp hb
          exact absurd (Nat.lt_trans (X.above x.1 x.2 hx) hlt) (Nat.lt_irrefl _)
    refine { fn := hk, gl := hgl, bu := hbu, wd := ?_, keep := (dropAt_sub _ _).trans keep, vars := ⟨_, hns, ?_⟩, own := ?_, gn := ?_, nd := ?_, vn := hVn, cl := live }
    · exact W.keeps fun b o e => dropAt_get (fun hb => by obtain ⟨p, hp, rfl⟩ := List.mem_map.mp hb; rw [(hM p hp).2] at e; cases e) (k₀ b o e)
    · intro p hp
      rcases hV h.objs.size p hp with ⟨x, y⟩ | ⟨x, ⟨c, y⟩, z⟩
      · exact .inl ⟨x, y⟩
      · exact .inr ⟨x, c, y, z ▸ X.cell _ _ y⟩
    · intro p hp
      obtain ⟨⟨o, ho', hx⟩, _⟩ := hM p hp
      exact ⟨o, keep _ _ ho', hx⟩
    · intro b hb
      cases e : (dropAt h (M.map (·.1))).get? b with
      | none => rfl
      | some o =>
        exfalso
        have e' := dropAt_sub _ _ _ _ e
        rcases List.mem_cons.mp hb with rfl | hb
        · rw [fresh _ (.head _)] at e'; cases e'
        · rcases List.mem_append.mp hb with hb | hb
          · rw [fresh _ (List.mem_cons_of_mem _ hb)] at e'; cases e'
          · rw [dropAt_in hb] at e; cases e
    · simp only [List.nodup_cons, List.mem_append, not_or, List.nodup_append]
      have hne : ∀ b ∈ (callEnvC fd h.objs.size a).locals :: ((callEnvC fd h.objs.size a).cells.map (·.2)), b ∉ M.map (·.1) := by
        intro b hb hm
        obtain ⟨p, hp, rfl⟩ := List.mem_map.mp hm
        obtain ⟨⟨o, ho', _⟩, _⟩ := hM p hp
        rw [fresh _ hb] at ho'; cases ho'
      refine ⟨⟨fun hb => ?_, hne _ (.head _)⟩, List.pairwise_map.mpr X.apart, hMn, fun b hb c hc e => hne b (List.mem_cons_of_mem _ hb) (e ▸ hc)⟩
      obtain ⟨x, hx, e⟩ := List.mem_map.mp hb
      exact absurd (X.above x.1 x.2 hx) (by rw [e]; exact Nat.lt_irrefl _)
  · cases f <;> exact hRR _ _ x
theorem enter {a : Addr} {fd : FuncData} {oc : Value} {od : Option Addr} {osl : Array (Option Value)} {body : List Stmt} {vals : List Value} {binds : List (Str × Value)} {V : List (Str × Option Value)} {M : List (Addr × (Obj → Prop))} {Q : Value → Shared → Prop}
    (R : Room (n + 1) A) (W : Wd w mg mb g₀) (k₀ : Sub g₀ h)
    (ho : (hd.heap_1 w.params).lookup a = some ⟨oc, od, .func fd, osl⟩)
    (hcd : codeIn (hd.heap_1 w.params) fd.code fd.qualname = true) (hbody : fd.body = .stmts body) (hbind : bindArgs fd ⟨vals, []⟩ = pure binds) (hclo : fd.closure = [])
    (hgl : fd.globals = mainGlobals) (hbu : fd.builtins = builtinsNs)
    (hkind : (binds.all fun y => fd.scope.names.lookup y.1 == some .local || fd.scope.names.lookup y.1 == some .cell) = true) (hcn : ((cellsFrom 0 fd.scope.names []).map (·.1)).Nodup)
    (hco : fd.scope.isCoroutine = false) (hgen : fd.scope.isGenerator = false) (hk : fd.scope.kind = .function)
    (hV : ∀ L, ∀ p ∈ V, VarAt fd L a binds p.1 p.2) (hVn : (V.map (·.1)).Nodup)
    (hM : ∀ p ∈ M, (∃ o, h.get? p.1 = some o ∧ p.2 o) ∧ g₀.get? p.1 = none) (hMn : (M.map (·.1)).Nodup)
    (q : ∀ L h₁ tk₁ g, Sub g₀ g → (∀ b o, b ∉ M.map (·.1) → h.get? b = some o → g.get? b = some o) → h.objs.size ≤ L → (∀ x ∈ (callEnvC fd L a).cells, h.get? x.2 = none) → h.get? L = none → Fx w mg mb g (callEnvC fd L a) V M h₁ → Room n (A.deeper (callEnvC fd L a)) →
      wpAny (model prog w) (A.deeper (callEnvC fd L a)) (execs body (callEnvC fd L a)) (Back Q) (fun _ _ => False) (upd s h₁ tk₁)) :
    wpAny (model prog w) A (call (.ref a) vals) Q (fun _ _ => False) (upd s h tk) :=
  wpAny_call (enterC (RR := fun r s' => match r with | .ok (.ret v) => Q v s' | .ok _ => False | .error e => False) (fun _ _ x => x) R W k₀ ho hcd hbody hbind hclo hgl hbu hkind hcn hco hgen hk hV hVn hM hMn q)
end
end Mine
end PEnter
section PRules2
open PySem PySem.W PyProof.Rows PySem.Calls
set_option Elab.async false
set_option linter.unusedVariables false
set_option maxRecDepth 100000
namespace Mine

abbrev IsL (h : Heap) (a : Addr) (vs : List Value) : Prop := h.IsList a vs.toArray
abbrev IsT (h : Heap) (a : Addr) (vs : List Value) : Prop := h.IsTuple a vs.toArray
noncomputable def LstP (vs : List Value) : Obj → Prop := fun o => ∃ n, o = listOf vs.toArray n
noncomputable def TupP (vs : List Value) : Obj → Prop := fun o => o = { cls := .type "tuple", data := .seq vs.toArray }
noncomputable def AnyP : Obj → Prop := fun _ => True
theorem IsL.up {g h : Heap} {a : Addr} {vs : List Value} (k : Sub g h) (x : IsL g a vs) : IsL h a vs := let ⟨o, e, r⟩ := x; ⟨o, k _ _ e, r⟩
theorem IsT.up {g h : Heap} {a : Addr} {vs : List Value} (k : Sub g h) (x : IsT g a vs) : IsT h a vs := let ⟨o, e, r⟩ := x; ⟨o, k _ _ e, r⟩
theorem LstP.isL {h : Heap} {a : Addr} {vs : List Value} {o : Obj} (e : h.get? a = some o) (x : LstP vs o) : IsL h a vs := by obtain ⟨n, rfl⟩ := x; exact ⟨_, e, rfl, n, rfl⟩
theorem LstP.arr {vs : List Value} {xs : Array Value} {n : Nat} (e : xs = vs.toArray) : LstP vs { cls := .type "list", data := .seq xs n } := ⟨n, by rw [e]⟩
theorem TupP.isT {h : Heap} {a : Addr} {vs : List Value} {o : Obj} (e : h.get? a = some o) (x : TupP vs o) : IsT h a vs := by obtain rfl := x; exact ⟨_, e, rfl, 0, rfl⟩

section
variable {w : World} {mg mb : Str → Option Value} {g h : Heap} {env : Env} {V V' : List (Str × Option Value)} {M M' : List (Addr × (Obj → Prop))}
variable {prog : Program} {A : Around} {E : Value → Shared → Prop} {s : Shared} {tk : Nat}

theorem Fx.isL {a : Addr} {vs : List Value} (F : Fx w mg mb g env V M h) (hm : At a (LstP vs) M) : IsL h a vs := let ⟨_, e, x⟩ := F.own _ hm.mem; x.isL e
theorem Fx.isT {a : Addr} {vs : List Value} (F : Fx w mg mb g env V M h) (hm : At a (TupP vs) M) : IsT h a vs := let ⟨_, e, x⟩ := F.own _ hm.mem; x.isT e

theorem e_sub {value slice : Expr} {pos : Pos} {Q : Value → Shared → Prop} {s' : Shared}
    (q : wpAny (model prog w) A (eval value env) (fun o s₁ => wpAny (model prog w) A (eval slice env) (fun i s₂ => SubscriptOn (model prog w) A o i Q E s₂) E s₁) E s')
    (hsl : ∀ o i, subscripted slice false o i = operate [o, i] (getItem o i) := by intro _ _; rfl) : wpAny (model prog w) A (eval (.Subscript value slice pos) env) Q E s' := by
  rw [eval_Subscript]
  refine wpAny_bind (wpAny_mono q (fun o s₁ h₁ => wpAny_bind (wpAny_holding (wpAny_mono h₁ (fun i s₂ h₂ => wpAny_bind (wpAny_standAt ?_)) fun _ _ x => x))) fun _ _ x => x)
  obtain ⟨T, id, hl, hT, hg⟩ := h₂
  refine wpAny_bind ?_
  rw [getitemInPython_of_ne hT.not_modules]
  refine wpAny_bind (wpAny_specialOf hT hl ?_)
  have fin : wpAny (model prog w) A (subscripted slice false o i) (fun r s₃ => wpAny (model prog w) A (letTemporaryGo value o r >>= fun _ => pure r) Q E s₃) E s₂ := by
    rw [hsl]; exact wpAny_operating (wpAny_mono hg (fun r s₃ h₃ => wpAny_bind (wpAny_letTemporaryGo (wpAny_pure h₃))) fun _ _ x => x)
  first
    | exact wpAny_pure (wpAny_bind fin)
    | exact wpAny_bind (wpAny_pure (wpAny_bind fin))
    | exact wpAny_bind fin
theorem sub_l {l : Addr} {vs : List Value} {k : Int} {t : Tok} {x : Value} {Q : Value → Shared → Prop} (hl : IsL h l vs) (h0 : 0 ≤ k) (hf : k < 2 ^ 63) (hx : vs[k.toNat]? = some x) (q : Q x (upd s h tk)) :
    SubscriptOn (model prog w) A (.ref l) (.int k t) Q E (upd s h tk) :=
  ⟨"list", _, slot_list_getitem.lookup, (hl : (upd s h tk).heap.IsList l _).typeIs, wpAny_getItem_list (s := upd s h tk) hl h0 hf (by simpa using hx) q⟩
theorem sub_ln {l : Addr} {vs : List Value} {k : Int} {t : Tok} {x : Value} {Q : Value → Shared → Prop} (hl : IsL h l vs) (h0 : k < 0) (h1 : -(vs.length : Int) ≤ k) (hf : -(2 ^ 63) ≤ k) (hx : vs[(k + vs.length).toNat]? = some x) (q : Q x (upd s h tk)) :
    SubscriptOn (model prog w) A (.ref l) (.int k t) Q E (upd s h tk) :=
  ⟨"list", _, slot_list_getitem.lookup, (hl : (upd s h tk).heap.IsList l _).typeIs, wpAny_getItem_list_neg (s := upd s h tk) hl h0 (by simpa using h1) hf (by simpa using hx) q⟩
theorem sub_t {l : Addr} {vs : List Value} {k : Int} {t : Tok} {x : Value} {Q : Value → Shared → Prop} (hl : IsT h l vs) (h0 : 0 ≤ k) (hf : k < 2 ^ 63) (hx : vs[k.toNat]? = some x) (q : Q x (upd s h tk)) :
    SubscriptOn (model prog w) A (.ref l) (.int k t) Q E (upd s h tk) := by
  have hl' : IsTup (upd s h tk).heap l vs.toArray := hl
  have hlt : k.toNat < vs.length := (List.getElem?_eq_some_iff.mp hx).1
  refine ⟨"tuple", _, slot_tuple_getitem.lookup, hl'.typeIs, getItem_tuple (s := upd s h tk) (j := k.toNat) hl' (by omega) hf ?_ (by simpa using hx) q⟩
  obtain ⟨j, rfl⟩ := Int.eq_ofNat_of_zero_le h0
  have hj : j < vs.length := hlt
  have hn : ¬ ((j : Int) < 0) := by omega
  simp [seqIndex?, hn, hj]

theorem n_tup {vs : List Value} {Q : Value → Shared → Prop} {MM : Model} (F : Fx w mg mb g env V M h) (hz : vs.length ≤ sizeLine) (q : ∀ a h', Fx w mg mb g env V ((a, TupP vs) :: M) h' → h.get? a = none → Sub h h' → Q (.ref a) (upd s h' tk)) :
    wpAny MM A (newTuple vs) Q E (upd s h tk) :=
  wpAny_newObj_type (s := upd s h tk) (q _ _ (F.alloc { cls := .type "tuple", data := .seq vs.toArray } rfl) (fresh_size h) (Sub.push _ _)) (by show vs.toArray.size ≤ sizeLine; simpa using hz)
theorem n_lst {vs : List Value} {Q : Value → Shared → Prop} {MM : Model} (F : Fx w mg mb g env V M h) (hz : vs.length ≤ sizeLine) (q : ∀ a h', Fx w mg mb g env V ((a, LstP vs) :: M) h' → h.get? a = none → Sub h h' → Q (.ref a) (upd s h' tk)) :
    wpAny MM A (newList vs) Q E (upd s h tk) :=
  wpAny_newObj_type (s := upd s h tk) (q _ _ (F.alloc { cls := .type "list", data := .seq vs.toArray } ⟨0, rfl⟩) (fresh_size h) (Sub.push _ _)) (by show vs.toArray.size ≤ sizeLine; simpa using hz)
theorem e_tup {elts : List Expr} {k : Nat} {pos : Pos} {Q : Value → Shared → Prop} {MM : Model} {s' : Shared} (q : wpAny MM A (spliced (backTo pos (starEach elts env))) (fun vs s₁ => wpAny MM A (newTuple vs) Q E s₁) E s') : wpAny MM A (eval (.Tuple elts k pos) env) Q E s' := PyProof.Rows.Tuple_ q
theorem e_lst {elts : List Expr} {pos : Pos} {Q : Value → Shared → Prop} {MM : Model} {s' : Shared} (q : wpAny MM A (spliced (backTo pos (starEach elts env))) (fun vs s₁ => wpAny MM A (newList vs) Q E s₁) E s') : wpAny MM A (eval (.List elts pos) env) Q E s' := PyProof.Rows.List_ q
theorem i_nil {pos : Pos} {Q : List Value → Shared → Prop} {MM : Model} {s' : Shared} (q : Q [] s') : wpAny MM A (spliced (backTo pos (starEach [] env))) Q E s' := wpAny_items_nil q
theorem i_cons {pos : Pos} {e : Expr} {rest : List Expr} {Q : List Value → Shared → Prop} {MM : Model} {s' : Shared} (q : wpAny MM A (eval e env) (fun v s₁ => wpAny MM A (spliced (backTo pos (starEach rest env))) (fun vs s₂ => Q (v :: vs) s₂) E s₁) E s')
    (he : starEach (e :: rest) env = (false, eval e env) :: starEach rest env := by rfl) : wpAny MM A (spliced (backTo pos (starEach (e :: rest) env))) Q E s' := wpAny_items_cons q he

theorem Fx.frz1 {a : Addr} {P : Obj → Prop} (F : Fx w mg mb g env V ((a, P) :: M) h) : ∃ g' o, Sub g g' ∧ g'.get? a = some o ∧ P o ∧ Fx w mg mb g' env V M h := by
  have F₁ := F.forget (M' := M) (List.sublist_cons_self _ _)
  obtain ⟨o, e, x⟩ := F.own _ (.head _)
  refine ⟨frz env M h, o, F₁.sub_frz, F₁.frz_get e ?_, x, F₁.freeze⟩
  have hnd := F.nd
  simp only [List.map_cons, List.nodup_cons, List.mem_append, List.mem_cons, not_or, List.nodup_append] at hnd
  simp only [List.mem_cons, List.mem_append, not_or]
  exact ⟨fun e => hnd.1.2.1 e.symm, fun hc => hnd.2.2.2 _ hc _ (.inl rfl) rfl, hnd.2.2.1.1⟩

theorem x_setsub {o i value : Expr} {p pos : Pos} {rest : List Stmt} {Q : Flow → Shared → Prop} {MM : Model} {s' : Shared}
    (q : wpAny MM A (eval value env) (fun v s₁ => wpAny MM A (eval o env) (fun ov s₂ => wpAny MM A (eval i env) (fun iv s₃ => wpAny MM A (setItem ov iv v) (fun _ s₄ => wpAny MM A (execs rest env) Q E s₄) E s₃) E s₂) E s₁) E s')
    (hs : swapsWith value (some (.Subscript o i p)) pos.line env = pure false := by rfl) : wpAny MM A (execs (.Assign [.Subscript o i p] value pos :: rest) env) Q E s' :=
  wpAny_execs_cons (wpAny_Assign_Subscript q hs)
theorem set_l {l : Addr} {vs : List Value} {k : Int} {t : Tok} {v : Value} {Q : Unit → Shared → Prop} (F : Fx w mg mb g env V M h) (hm : At l (LstP vs) M) (hp : Put l (LstP (vs.set k.toNat v)) M M') (h0 : 0 ≤ k) (hf : k < 2 ^ 63) (hn : k < vs.length)
    (q : ∀ h', Fx w mg mb g env V M' h' → Q () (upd s h' tk)) : wpAny (model prog w) A (setItem (.ref l) (.int k t) v) Q E (upd s h tk) := by
  obtain ⟨o, e, n, rfl⟩ := F.own _ hm.mem
  refine ki_setAt (s := upd s h tk) e h0 hf (by simpa using hn) (q _ (F.puts hp (Heap.SameBut.update ..) (get?_update_seq (c := "list") e _) ?_))
  exact LstP.arr (by simp)
theorem set_ln {l : Addr} {vs : List Value} {k : Int} {t : Tok} {v : Value} {Q : Unit → Shared → Prop} (F : Fx w mg mb g env V M h) (hm : At l (LstP vs) M) (hp : Put l (LstP (vs.set (k + vs.length).toNat v)) M M') (h0 : k < 0) (h1 : -(vs.length : Int) ≤ k) (hf : -(2 ^ 63) ≤ k)
    (q : ∀ h', Fx w mg mb g env V M' h' → Q () (upd s h' tk)) : wpAny (model prog w) A (setItem (.ref l) (.int k t) v) Q E (upd s h tk) := by
  obtain ⟨o, e, n, rfl⟩ := F.own _ hm.mem
  refine ki_setBack (s := upd s h tk) e h0 (by simpa using h1) hf (q _ (F.puts hp (Heap.SameBut.update ..) (get?_update_seq (c := "list") e _) ?_))
  exact LstP.arr (by simp)
theorem n_app {l : Addr} {vs : List Value} {v : Value} {Q : Value → Shared → Prop} (F : Fx w mg mb g env V M h) (hm : At l (LstP vs) M) (hp : Put l (LstP (vs ++ [v])) M M') (hz : vs.length ≤ sizeLine)
    (q : ∀ h', Fx w mg mb g env V M' h' → Q .none (upd s h' tk)) : wpAny (model prog w) A (call (.builtin "list.append") [.ref l, v]) Q E (upd s h tk) := by
  obtain ⟨o, e, n, rfl⟩ := F.own _ hm.mem
  refine wpAny_list_append_plain (s := upd s h tk) (hsz := by simpa using hz) ⟨n, e⟩ fun h' ⟨n', e'⟩ hs => q h' (F.puts hp hs e' (LstP.arr (by simp)))
theorem x_app {o elt : Expr} {apos pos epos : Pos} {rest : List Stmt} {Q : Flow → Shared → Prop} {s' : Shared}
    (q : wpAny (model prog w) A (eval o env) (fun ov s₁ => ∃ D its, ov = .ref D ∧ PlainL s₁.heap D its ∧
      wpAny (model prog w) A (eval elt env) (fun y s₂ => wpAny (model prog w) A (call (.builtin "list.append") [.ref D, y]) (fun _ s₃ => wpAny (model prog w) A (execs rest env) Q E s₃) E s₂) E s₁) E s')
    (hbase : attributeBase o "append" env (eval o env) = eval o env := by rfl) (hline : (apos.endLine == pos.line) = true := by rfl) (htrees : backTo pos (starEach [elt] env) = [(false, eval elt env)] := by rfl)
    (hi : interactive env = false := by rfl) (hs : swapsWith (.Call (.Attribute o "append" apos) [elt] [] pos) none epos.line env = pure false := by rfl) :
    wpAny (model prog w) A (execs (.Expr (.Call (.Attribute o "append" apos) [elt] [] pos) epos :: rest) env) Q E s' :=
  wpAny_execs_cons (wpAny_Expr_any (wpAny_Call_append hbase (by rw [htrees]; rfl) hline htrees q) hi hs)
theorem Fx.plainL {l : Addr} {vs : List Value} (F : Fx w mg mb g env V M h) (hm : At l (LstP vs) M) : PlainL h l vs.toArray := by
  obtain ⟨o, e, n, rfl⟩ := F.own _ hm.mem
  exact ⟨_, n, e, rfl, rfl, rfl⟩

noncomputable def SliceOn (o vl vu vst : Value) (Q : Value → Shared → Prop) (s : Shared) : Prop :=
  ∃ l vs lo hi st, o = .ref l ∧ IsL s.heap l vs ∧ vs.length ≤ sizeLine ∧ IsPart vl lo ∧ IsPart vu hi ∧ IsPart vst st ∧ st ≠ some 0 ∧
    ∀ a h', Sub s.heap h' → s.heap.get? a = none → h'.get? a = some (listOf (slicePick vs.toArray lo hi st) 0) → Q (.ref a) (upd s h' s.toks)
theorem e_slice {value : Expr} {lower upper step : Option Expr} {p pos : Pos} {Q : Value → Shared → Prop} {s' : Shared}
    (q : wpAny (model prog w) A (eval value env) (fun o s₁ => wpAny (model prog w) A (evalPart lower env) (fun vl s₂ => wpAny (model prog w) A (evalPart upper env) (fun vu s₃ => wpAny (model prog w) A (evalPart step env) (fun vst s₄ => SliceOn o vl vu vst Q s₄) E s₃) E s₂) E s₁) E s')
    (ht : ∀ o r, letTemporaryGo value o r = pure () := by intro _ _; rfl) :
    wpAny (model prog w) A (eval (.Subscript value (.Slice lower upper step p) pos) env) Q E s' := by
  have main : wpAny (model prog w) A (eval value env) (fun o s₁ => wpAny (model prog w) A (eval (.Slice lower upper step p) env) (fun i s₂ => s₂.TypeIs o "list" ∧ wpAny (model prog w) A (getItem o i) Q E s₂) E s₁) E s' := by
    refine wpAny_mono q (fun o s₁ h₁ => wpAny_Slice (wpAny_mono h₁ (fun vl s₂ h₂ => wpAny_mono h₂ (fun vu s₃ h₃ => wpAny_mono h₃ (fun vst s₄ h₄ => ?_) fun _ _ e => e) fun _ _ e => e) fun _ _ e => e)) fun _ _ e => e
    obtain ⟨l, vs, lo, hi, st, rfl, hl, hz, pl, pu, ps, h0, hq⟩ := h₄
    have hl' : IsL (s₄.heap.push { cls := .type "slice", data := .fields #[vl, vu, vst] }) l vs := hl.up (Sub.push _ _)
    refine ⟨(hl' : ({ s₄ with heap := s₄.heap.push { cls := .type "slice", data := .fields #[vl, vu, vst] } } : Shared).heap.IsList l _).typeIs, ?_⟩
    refine wpAny_getItem_list_slice (s := { s₄ with heap := s₄.heap.push { cls := .type "slice", data := .fields #[vl, vu, vst] } }) hl' ⟨_, Heap.get?_push_size _ rfl, rfl, rfl⟩ pl pu ps h0 ?_ ?_
    · refine hq _ _ ((Sub.push _ _).trans (Sub.push _ _)) ?_ (Heap.get?_push_size _ rfl)
      show s₄.heap.get? (s₄.heap.push { cls := .type "slice", data := .fields #[vl, vu, vst] }).objs.size = none
      cases e : s₄.heap.get? (s₄.heap.push { cls := .type "slice", data := .fields #[vl, vu, vst] }).objs.size with
      | none => rfl
      | some o => exact absurd (Heap.lt_size e) (by simp)
    · simpa using hz
  cases step with
  | none => exact wpAny_Subscript_Slice (T := "list") slot_list_getitem.lookup main ht
  | some st => exact wpAny_Subscript_Slice_step (T := "list") slot_list_getitem.lookup main ht
theorem slc {l : Addr} {vs zs : List Value} {vl vu vst : Value} {lo hi st : Option Int} {Q : Value → Shared → Prop} (F : Fx w mg mb g env V M h) (hl : IsL h l vs) (hz : vs.length ≤ sizeLine) (pl : IsPart vl lo) (pu : IsPart vu hi) (ps : IsPart vst st) (h0 : st ≠ some 0)
    (e : slicePick vs.toArray lo hi st = zs.toArray) (q : ∀ a h', Fx w mg mb g env V ((a, LstP zs) :: M) h' → h.get? a = none → Sub h h' → Q (.ref a) (upd s h' tk)) : SliceOn (.ref l) vl vu vst Q (upd s h tk) :=
  ⟨l, vs, lo, hi, st, rfl, hl, hz, pl, pu, ps, h0, fun a h' k ha hh => q a h' (F.adopt k ha hh ⟨0, by rw [e]⟩) ha k⟩
theorem p_none {Q : Value → Shared → Prop} {MM : Model} {s' : Shared} (q : Q .none s') : wpAny MM A (evalPart none env) Q E s' := wpAny_pure q
theorem p_some {e : Expr} {Q : Value → Shared → Prop} {MM : Model} {s' : Shared} (q : wpAny MM A (eval e env) Q E s') : wpAny MM A (evalPart (some e) env) Q E s' := q

theorem b_len {l : Addr} {vs : List Value} {Q : Value → Shared → Prop} (hl : IsL h l vs) (hz : vs.length ≤ sizeLine) (q : ∀ t tk', Q (.int vs.length t) (upd s h tk')) : wpAny (model prog w) A (call (.builtin "len") [.ref l]) Q E (upd s h tk) := by
  have hz' : (vs.toArray.size : Int) < 2 ^ 63 := by have : sizeLine = 16777216 := rfl; simp; omega
  have e : ((vs.toArray.size : Nat) : Int) = vs.length := by simp
  refine call_len_list (s := upd s h tk) hl hz' ?_
  rw [e]
  exact q _ _
theorem b_abs {a : Int} {t : Tok} {Q : Value → Shared → Prop} (q : ∀ t tk', Q (.int a.natAbs t) (upd s h tk')) : wpAny (model prog w) A (call (.builtin "abs") [.int a t]) Q E (upd s h tk) := by
  refine PyProof.Rows.call_abs_int (s := upd s h tk) fun u tk' => ?_
  have : (if a < 0 then -a else a) = (a.natAbs : Int) := by split <;> omega
  rw [this]; exact q u tk'
end
end Mine
end PRules2
section PLoops
open PySem PySem.W PyProof.Rows PySem.Calls
set_option Elab.async false
set_option linter.unusedVariables false
set_option maxRecDepth 100000
namespace Mine

section
variable {w : World} {mg mb : Str → Option Value} {g h : Heap} {env : Env} {V V' : List (Str × Option Value)} {M M' : List (Addr × (Obj → Prop))}
variable {prog : Program} {A : Around} {E : Value → Shared → Prop} {s : Shared} {tk : Nat}

noncomputable def Src (prog : Program) (w : World) (A : Around) (g h : Heap) (target : Expr) (xv : Value) (n : Nat) (P : Nat → Value → Prop) : Prop :=
  ∀ (s : Shared) (tk : Nat) (Q : Value → Shared → Prop) (E : Value → Shared → Prop),
    (∀ I fp wr St h' tk', Walks prog w A I fp wr n P St → St 0 h' → Sub h h' → h.get? I = none → (∀ b ∈ fp, b = I ∨ (g.get? b).isSome = true) → (∀ i h, St i h → (h.get? I).isSome = true) → (∀ b ∈ wr, b = I) →
      (∀ i (s' : Shared) v (Q' : Unit → Shared → Prop) (E' : Value → Shared → Prop), St (i + 1) s'.heap → P i v → Q' () s' → wpAny (model prog w) A (letOwnedTupleGo target (.ref I) v) Q' E' s') → Q (.ref I) (upd s h' tk')) →
    wpAny (model prog w) A (pyIter xv) Q E (upd s h tk)

theorem go_list {I l : Addr} {i : Nat} {target : Expr} {v : Value} {s' : Shared} {Q : Unit → Shared → Prop} (x : s'.heap.IsListIter I l i) (q : Q () s') : wpAny (model prog w) A (letOwnedTupleGo target (.ref I) v) Q E s' := by
  obtain ⟨o, ho, hc, hd⟩ := x
  unfold letOwnedTupleGo
  cases target <;> first
    | exact wpAny_pure q
    | (cases v <;> first
        | exact wpAny_pure q
        | (refine wpAny_bind (wpAny_load ho ?_)
           rw [hc, hd]
           exact wpAny_pure q))
theorem src_l {l : Addr} {vs : List Value} {target : Expr} (hh : A.handled = none) (hg : IsL g l vs) (k : Sub g h) : Src prog w A g h target (.ref l) vs.length (fun i v => vs[i]? = some v) := by
  intro s tk Q E q
  have hl : IsL h l vs := hg.up k
  obtain ⟨ol, hol, _⟩ := id hl
  obtain ⟨og, hog, _⟩ := id hg
  have hlt : l < h.objs.size := Heap.lt_size hol
  refine wpAny_pyIter_list (s := upd s h tk) hl ?_
  have W := Walks.list (prog := prog) (w := w) hh h.objs.size l (Nat.ne_of_lt hlt) vs.toArray
  refine q h.objs.size [h.objs.size, l] [h.objs.size] (fun i h => h.IsListIter _ l i ∧ h.IsList l vs.toArray) (h.push { cls := .type "list_iterator", data := .fields #[.ref l, .int 0 0] }) tk (by simpa using W) ⟨⟨_, Heap.get?_push_size _ rfl, rfl, rfl⟩, hl.up (Sub.push _ _)⟩ (Sub.push _ _) (fresh_size h) ?_ ?_ ?_ ?_
  · intro b hb
    simp only [List.mem_cons, List.not_mem_nil, or_false] at hb
    rcases hb with rfl | rfl
    · exact .inl rfl
    · exact .inr (by rw [hog]; rfl)
  · rintro i h' ⟨⟨o, ho, _⟩, _⟩; rw [ho]; rfl
  · intro b hb; simpa using hb
  · intro i s' v Q' E' hst _ q'
    exact go_list hst.1 q'

noncomputable def ForL (prog : Program) (w : World) (A : Around) (E : Value → Shared → Prop) (env : Env) (target : Expr) (body rest : List Stmt) (Q : Flow → Shared → Prop) (x : Value) (s₁ : Shared) : Prop :=
  wpAny (model prog w) A (pyIter x) (fun it s₂ => codeAny (model prog w) A (.forLoop target it body [] env) (fun r s' => match r with | .ok f => Seq (model prog w) A E env rest Q f s' | .error e => cameBackBy (model prog w) A env E e s') s₂) E s₁
theorem x_for {target iter : Expr} {body rest : List Stmt} {pos : Pos} {Q : Flow → Shared → Prop} {s' : Shared} (q : wpAny (model prog w) A (eval iter env) (fun x s₁ => ForL prog w A E env target body rest Q x s₁) E s')
    (hs : ∀ x, foldedSetIterable iter env x = pure x := by intro _; rfl) : wpAny (model prog w) A (execs (.For target iter body [] pos :: rest) env) Q E s' :=
  x_cons (wpAny_For q hs)

noncomputable def TurnE (w : World) (mg mb : Str → Option Value) (s : Shared) (env : Env) (g₁ : Heap) (I : Addr) (oI : Obj) (J : Heap → List (Str × Option Value) → List (Addr × (Obj → Prop)) → Prop) (Brk : Shared → Prop) (Ret : Value → Shared → Prop) : Flow → Shared → Prop
  | .brk, s' => Brk s'
  | .ret v, s' => Ret v s'
  | _, s' => ∃ g₂ V₂ M₂ h₂ tk₂, s' = upd s h₂ tk₂ ∧ Sub g₁ g₂ ∧ J g₂ V₂ M₂ ∧ Fx w mg mb g₂ env V₂ ((I, (· = oI)) :: M₂) h₂
section
variable {g₁ g₂ h₂ : Heap} {I : Addr} {oI : Obj} {J : Heap → List (Str × Option Value) → List (Addr × (Obj → Prop)) → Prop} {Brk : Shared → Prop} {Ret : Value → Shared → Prop} {V₂ : List (Str × Option Value)} {M₂ : List (Addr × (Obj → Prop))} {tk₂ : Nat}
theorem TurnE.nxt (F : Fx w mg mb g₂ env V₂ ((I, (· = oI)) :: M₂) h₂) (k : Sub g₁ g₂) (j : J g₂ V₂ M₂) : TurnE w mg mb s env g₁ I oI J Brk Ret .next (upd s h₂ tk₂) := ⟨g₂, V₂, M₂, h₂, tk₂, rfl, k, j, F⟩
theorem TurnE.cnt (F : Fx w mg mb g₂ env V₂ ((I, (· = oI)) :: M₂) h₂) (k : Sub g₁ g₂) (j : J g₂ V₂ M₂) : TurnE w mg mb s env g₁ I oI J Brk Ret .cont (upd s h₂ tk₂) := ⟨g₂, V₂, M₂, h₂, tk₂, rfl, k, j, F⟩
theorem TurnE.rt {v : Value} {s' : Shared} (q : Ret v s') : TurnE w mg mb s env g₁ I oI J Brk Ret (.ret v) s' := q
end

theorem forL {target : Expr} {xv : Value} {n : Nat} {P : Nat → Value → Prop} {body rest : List Stmt} {Q : Flow → Shared → Prop} (J : Nat → Heap → List (Str × Option Value) → List (Addr × (Obj → Prop)) → Prop)
    (F : Fx w mg mb g env V M h) (src : Src prog w A g h target xv n P) (hJ0 : J 0 g V M)
    (turn : ∀ i v g₁ V₁ M₁ h₁ tk₁ I oI, i < n → P i v → J i g₁ V₁ M₁ → Sub g g₁ → Fx w mg mb g₁ env V₁ ((I, (· = oI)) :: M₁) h₁ →
      wpAny (model prog w) A (assign target env v) (fun _ s' => wpAny (model prog w) A (execs body env) (TurnE w mg mb s env g₁ I oI (J (i + 1)) (fun s' => wpAny (model prog w) A (execs rest env) Q E s') (fun v s' => Q (.ret v) s')) (fun _ _ => False) s') (fun _ _ => False) (upd s h₁ tk₁))
    (done : ∀ g₁ V₁ M₁ h₁ tk₁, J n g₁ V₁ M₁ → Sub g g₁ → Fx w mg mb g₁ env V₁ M₁ h₁ → wpAny (model prog w) A (execs rest env) Q E (upd s h₁ tk₁)) :
    ForL prog w A E env target body rest Q xv (upd s h tk) := by
  refine src s tk _ _ fun I fp wr St h' tk' W hst k hI hfp hal hwr hgo => ?_
  refine codeAny_forLoop_any (fun m s' => ∃ i gi Vi Mi hi tki, s' = upd s hi tki ∧ i ≤ n ∧ m = n - i ∧ J i gi Vi Mi ∧ Sub g gi ∧ Fx w mg mb gi env Vi ((I, AnyP) :: Mi) hi ∧ St i hi) ?_ n
    ⟨0, g, V, M, h', tk', rfl, Nat.zero_le _, rfl, hJ0, Sub.rfl' _, ?_, hst⟩
  · rintro m s' ⟨i, gi, Vi, Mi, hi, tki, rfl, hin, rfl, hJ, kg, Fi, hsti⟩
    have hx : ∀ {h₁ : Heap}, (∀ b o, b ∉ wr → (upd s hi tki).heap.get? b = some o → h₁.get? b = some o) → Heap.ExtBut I hi h₁ := fun hk b o hb e => hk b o (fun hb' => hb (hwr b hb')) e
    by_cases hlt : i < n
    · refine W.item i _ _ _ hlt hsti fun v h₁ tk₁ hP hst₁ hk₁ => ?_
      obtain ⟨oI, hoI⟩ := Option.isSome_iff_exists.mp (hal _ _ hst₁)
      have Fi₁ : Fx w mg mb gi env Vi ((I, (· = oI)) :: Mi) h₁ := Fi.put .head (hx hk₁) hoI rfl
      refine hgo i _ v _ _ hst₁ hP ?_
      refine wpAny_mono (turn i v gi Vi Mi h₁ tk₁ I oI hlt hP hJ kg Fi₁) (fun _ s₂ h₂ => wpAny_mono h₂ (fun f s₃ h₃ => ?_) fun _ _ e => e.elim) fun _ _ e => e.elim
      have fin : ∀ s₃, (∃ g₂ V₂ M₂ h₂ tk₂, s₃ = upd s h₂ tk₂ ∧ Sub gi g₂ ∧ J (i + 1) g₂ V₂ M₂ ∧ Fx w mg mb g₂ env V₂ ((I, (· = oI)) :: M₂) h₂) → ∃ m, m < n - i ∧ ∃ i' gi Vi Mi hi tki, s₃ = upd s hi tki ∧ i' ≤ n ∧ m = n - i' ∧ J i' gi Vi Mi ∧ Sub g gi ∧ Fx w mg mb gi env Vi ((I, AnyP) :: Mi) hi ∧ St i' hi := by
        rintro _ ⟨g₂, V₂, M₂, h₂, tk₂, rfl, k₂, j₂, F₂⟩
        refine ⟨n - (i + 1), by omega, i + 1, g₂, V₂, M₂, h₂, tk₂, rfl, hlt, rfl, j₂, kg.trans k₂, F₂.weaken .head fun _ _ _ _ => trivial, W.frame _ _ _ hst₁ fun b hb o e => ?_⟩
        rcases hfp b hb with rfl | hbg
        · obtain ⟨o', ho', e'⟩ := F₂.own _ (.head _)
          rw [hoI] at e; cases e
          rw [ho', e']
        · obtain ⟨og, hog⟩ := Option.isSome_iff_exists.mp hbg
          have e1 := Fi₁.keep _ _ (kg _ _ hog)
          rw [e1] at e; cases e
          exact F₂.keep _ _ (k₂ _ _ (kg _ _ hog))
      cases f with
      | brk => exact h₃
      | ret v => exact h₃
      | next => exact fin _ h₃
      | cont => exact fin _ h₃
    · have hin' : i = n := by omega
      subst hin'
      refine W.done _ _ _ hsti fun h₁ tk₁ hk₁ => ?_
      exact x_nil (done gi Vi Mi h₁ tk₁ hJ kg (Fi.behead (hx hk₁)))
  · obtain ⟨oI, hoI⟩ := Option.isSome_iff_exists.mp (hal _ _ hst)
    exact F.adopt k hI hoI trivial
end
end Mine
end PLoops
section PComp
open PySem PySem.W PyProof.Rows PySem.Calls
set_option Elab.async false
set_option linter.unusedVariables false
set_option maxRecDepth 100000
namespace Mine

section
variable {prog : Program} {w : World} {A : Around} {E : Value → Shared → Prop} {R : Result → Shared → Prop} {s : Shared}

noncomputable def tests (ifs : List Expr) (env : Env) : Sem Bool := forIn ifs true fun c r => if r = true then do let ok ← isTrue c env (eval c env); pure (ForInStep.yield ok) else pure (ForInStep.yield r)
theorem tests0 {env : Env} {Q : Bool → Shared → Prop} (h : Q true s) : wpAny (model prog w) A (tests [] env) Q E s := wpAny_tests_nil h
theorem tests1 {env : Env} {c : Expr} {Q : Bool → Shared → Prop} (h : wpAny (model prog w) A (isTrue c env (eval c env)) Q E s) : wpAny (model prog w) A (tests [c] env) Q E s := wpAny_tests_one h

theorem comp_loop {elt target iter : Expr} {ifs : List Expr} {scope : Scope} {pos : Pos} {it acc : Value} {env : Env} (I : Nat → Shared → Prop)
    (turn : ∀ n s, I n s → wpAny (model prog w) A (pyNext it) (fun r s₁ => match r with
      | none => R (.ok .next) s₁
      | some v => wpAny (model prog w) A (letOwnedTupleGo target it v) (fun _ s₂ => wpAny (model prog w) A (assign target env v) (fun _ s₃ => wpAny (model prog w) A (tests ifs env)
          (Ways (fun s₄ => wpAny (model prog w) A (eval elt env) (fun y s₅ => wpAny (model prog w) A (call (.builtin "list.append") [acc, y]) (fun _ s₆ => ∃ m, m < n ∧ I m s₆) (fun _ _ => False) s₅) (fun _ _ => False) s₄)
            (fun s₄ => ∃ m, m < n ∧ I m s₄)) (fun _ _ => False) s₃) (fun _ _ => False) s₂) (fun _ _ => False) s₁) (fun _ _ => False) s)
    (n : Nat) (h : I n s) : codeAny (model prog w) A (.compLoop (.ListComp elt [⟨target, iter, ifs, 0⟩] scope pos) 0 it acc env) R s := by
  refine codeAny_loop rfl I (fun n s hI => ?_) n h
  show wpAny _ A ((compTurn (.ListComp elt [⟨target, iter, ifs, 0⟩] scope pos) 0 it acc env).onRaise (fun x => do noteFrame x env; theTreesLotGoes x)) _ _ s
  refine wpAny_noted ?_
  rw [compTurn_list]
  refine wpAny_bind (wpAny_standAt (wpAny_bind (wpAny_mono (turn n s hI) (fun r s₁ h₁ => ?_) fun _ _ e => e.elim)))
  cases r with
  | none => exact wpAny_pure h₁
  | some v =>
    refine wpAny_bind (wpAny_mono h₁ (fun _ s₂ h₂ => wpAny_bind (wpAny_mono h₂ (fun _ s₃ h₃ => wpAny_bind (wpAny_mono h₃ (fun ok s₄ h₄ => ?_) fun _ _ e => e.elim)) fun _ _ e => e.elim)) fun _ _ e => e.elim)
    cases ok with
    | false => exact wpAny_pure ⟨rfl, h₄⟩
    | true => exact wpAny_bind (wpAny_bind (wpAny_mono h₄ (fun y s₅ h₅ => wpAny_bind (wpAny_mono h₅ (fun _ s₆ h₆ => wpAny_pure (wpAny_pure ⟨rfl, h₆⟩)) fun _ _ e => e.elim)) fun _ _ e => e.elim))
end

noncomputable def CEnd (s : Shared) (mods : List Addr) (C : Addr) (h₃ : Heap) (J : Heap → Prop) (s' : Shared) : Prop :=
  ∃ h₄ tk₄ m₄, s' = upd s h₄ tk₄ ∧ But (C :: mods) h₃ h₄ ∧ h₄.Ns C m₄ ∧ J h₄

section
variable {w : World} {mg mb : Str → Option Value} {g h g' : Heap} {env : Env} {V V' : List (Str × Option Value)} {M M' : List (Addr × (Obj → Prop))}
variable {prog : Program} {A : Around} {E : Value → Shared → Prop} {s : Shared} {tk : Nat}

noncomputable def CompB (prog : Program) (w : World) (A : Around) (E : Value → Shared → Prop) (env : Env) (elt target iter : Expr) (ifs : List Expr) (scope : Scope) (cl : List (Str × Addr)) (pos : Pos) (RR : Value → Addr → Result → Shared → Prop) (it : Value) (s₂ : Shared) : Prop :=
  wpAny (model prog w) A (newList []) (fun acc s₃ => wpAny (model prog w) A (newFunctionEnv scope env.globals cl [] env.qual none .none (some env)) (fun cenv s₄ =>
    codeAny (model prog w) A (.compStart (.ListComp elt [⟨target, iter, ifs, 0⟩] scope pos) 0 it acc { cenv with scope := relabel scope env }) (RR acc cenv.locals) s₄) E s₃) E s₂

theorem comp_core2 {elt target iter : Expr} {ifs : List Expr} {scope : Scope} {cl : List (Str × Addr)} {pos : Pos} {RR : Value → Addr → Result → Shared → Prop} {n : Nat} {P : Nat → Value → Prop} {mods : List Addr}
    (J : List Addr → Nat → List Value → Heap → Prop) (kg : Sub g h) (hgm : ∀ b ∈ mods, g.get? b = none) (hml : ∀ b ∈ mods, (h.get? b).isSome = true) (hn : n ≤ 1000)
    (hJs : ∀ X i ys h₁ h₂, J X i ys h₁ → But X h₁ h₂ → (∀ b ∈ mods, b ∉ X) → J X i ys h₂) (hJ0 : ∀ X h₁, Sub h h₁ → J X 0 [] h₁) (hJl : ∀ X i ys h₁, J X i ys h₁ → i ≤ n → ys.length ≤ 1000)
    (turn : ∀ C D I i v ys h₃ tk₃ m₃, i < n → P i v → J [C, D, I] i ys h₃ → But (C :: D :: I :: mods) h h₃ → h.get? C = none → h.get? D = none → h.get? I = none → (h₃.get? C).isSome = true → (h₃.get? D).isSome = true → (h₃.get? I).isSome = true → h₃.Ns C m₃ →
      wpAny (model prog w) A (assign target (compEnvC scope cl C env) v) (fun _ s₁ => wpAny (model prog w) A (tests ifs (compEnvC scope cl C env))
        (Ways (fun s₂ => wpAny (model prog w) A (eval elt (compEnvC scope cl C env)) (fun y s₃ => CEnd s mods C h₃ (J [C, D, I] (i + 1) (ys ++ [y])) s₃) (fun _ _ => False) s₂) (CEnd s mods C h₃ (J [C, D, I] (i + 1) ys))) (fun _ _ => False) s₁) (fun _ _ => False) (upd s h₃ tk₃))
    (fin : ∀ C D I ys h' tk' m', J [C, D, I] n ys h' → But (C :: D :: I :: mods) h h' → h.get? C = none → h.get? D = none → h.get? I = none → C ≠ D → h'.Ns C m' → h'.PlainList D ys.toArray → RR (.ref D) C (.ok .next) (upd s h' tk'))
    {C D I : Addr} {fp wr : List Addr} {St : Nat → Heap → Prop} {h₂ : Heap} {m₀ : Str → Option Value} {tk₂ : Nat} (W : Walks prog w A I fp wr n P St) (hst₂ : St 0 h₂) (k₂ : Sub h h₂) (hI : h.get? I = none) (hDh : h.get? D = none) (hCh : h.get? C = none)
    (hfp : ∀ b ∈ fp, b = I ∨ (g.get? b).isSome = true) (hal : ∀ i h, St i h → (h.get? I).isSome = true) (hwr : ∀ b ∈ wr, b = I)
    (hgo : ∀ i (s' : Shared) v (Q' : Unit → Shared → Prop) (E' : Value → Shared → Prop), St (i + 1) s'.heap → P i v → Q' () s' → wpAny (model prog w) A (letOwnedTupleGo target (.ref I) v) Q' E' s')
    (hDC : D ≠ C) (hDI : D ≠ I) (hCI : C ≠ I) (hacc : h₂.PlainList D #[]) (hns : h₂.Ns C m₀) :
    codeAny (model prog w) A (.compStart (.ListComp elt [⟨target, iter, ifs, 0⟩] scope pos) 0 (.ref I) (.ref D) (compEnvC scope cl C env)) (RR (.ref D) C) (upd s h₂ tk₂) := by
  have nX : ∀ b ∈ mods, b ∉ [C, D, I] := by
    intro b hb hx
    obtain ⟨o, ho⟩ := Option.isSome_iff_exists.mp (hml b hb)
    simp only [List.mem_cons, List.not_mem_nil, or_false] at hx
    rcases hx with rfl | rfl | rfl
    · rw [hCh] at ho; cases ho
    · rw [hDh] at ho; cases ho
    · rw [hI] at ho; cases ho
  have offI : ∀ b ∈ fp, b ≠ D ∧ b ≠ C := by
    intro b hb
    rcases hfp b hb with rfl | e
    · exact ⟨hDI.symm, hCI.symm⟩
    · obtain ⟨o, ho⟩ := Option.isSome_iff_exists.mp e
      have ho := kg _ _ ho
      exact ⟨fun e => (by rw [e, hDh] at ho; cases ho), fun e => (by rw [e, hCh] at ho; cases ho)⟩
  have live : ∀ {h₃ : Heap} {x : Addr} {m : Str → Option Value}, h₃.Ns x m → (h₃.get? x).isSome = true := fun ⟨o, _, _, e, _⟩ => by rw [e]; rfl
  have loop : ∀ (tk₂ : Nat), codeAny (model prog w) A (.compLoop (.ListComp elt [⟨target, iter, ifs, 0⟩] scope pos) 0 (.ref I) (.ref D) (compEnvC scope cl C env)) (RR (.ref D) C) (upd s h₂ tk₂) := by
    intro tk₂
    refine comp_loop (fun m s' => ∃ i hi tki mi ys, s' = upd s hi tki ∧ i ≤ n ∧ m = n - i ∧ J [C, D, I] i ys hi ∧ But (C :: D :: I :: mods) h hi ∧ hi.Ns C mi ∧ hi.PlainList D ys.toArray ∧ St i hi) ?_ n
      ⟨0, h₂, tk₂, _, [], rfl, Nat.zero_le _, rfl, hJ0 _ _ k₂, But.of_sub k₂, hns, hacc, hst₂⟩
    rintro m s' ⟨i, hi, tki, mi, ys, rfl, hin, rfl, hJ, kb, hni, hai, hsti⟩
    have hx : ∀ {h₃ : Heap}, (∀ b o, b ∉ wr → (upd s hi tki).heap.get? b = some o → h₃.get? b = some o) → ∀ b o, b ≠ I → hi.get? b = some o → h₃.get? b = some o := fun hk b o hb e => hk b o (fun hb' => hb (hwr b hb')) e
    by_cases hlt : i < n
    · refine W.item i _ _ _ hlt hsti fun v h₃ tk₃ hP hst₃ hk₃ => ?_
      have hk₃' := hx hk₃
      have kb₃ : But (C :: D :: I :: mods) h h₃ := kb.trans fun b o hb e => hk₃' b o (by simp only [List.mem_cons, not_or] at hb; exact hb.2.2.1) e
      have hn₃ : h₃.Ns C mi := hni.at' fun o e => hk₃' _ o hCI e
      have ha₃ : h₃.PlainList D ys.toArray := hai.at fun o e => hk₃' _ o hDI e
      have hJ₃ := hJs _ _ _ hi h₃ hJ (fun b o hb e => hk₃' b o (by simp only [List.mem_cons, not_or] at hb; exact hb.2.2.1) e) nX
      refine hgo i _ v _ _ hst₃ hP ?_
      obtain ⟨n₃, e₃⟩ := ha₃
      obtain ⟨o₃, ho₃⟩ := Option.isSome_iff_exists.mp (hal _ _ hst₃)
      have adv : ∀ {h₄ : Heap}, But (C :: mods) h₃ h₄ → But (C :: D :: I :: mods) h h₄ ∧ h₄.PlainList D ys.toArray ∧ St (i + 1) h₄ := fun {h₄} k₄ => by
        refine ⟨kb₃.trans (k₄.mono fun a ha => ?_), ⟨n₃, k₄ _ _ ?_ e₃⟩, W.frame _ _ _ hst₃ fun b hb o e => k₄ b o ?_ e⟩
        · simp only [List.mem_cons] at ha ⊢; rcases ha with rfl | ha
          · exact .inl rfl
          · exact .inr (.inr (.inr ha))
        · simp only [List.mem_cons, not_or]; exact ⟨hDC, fun hm => nX D hm (by simp)⟩
        · simp only [List.mem_cons, not_or]
          refine ⟨(offI b hb).2, fun hm => ?_⟩
          rcases hfp b hb with rfl | e'
          · exact nX _ hm (by simp)
          · rw [hgm b hm] at e'; cases e'
      refine wpAny_mono (turn C D I i v ys h₃ tk₃ mi hlt hP hJ₃ kb₃ hCh hDh hI (live hn₃) (by rw [e₃]; rfl) (by rw [ho₃]; rfl) hn₃) (fun _ s₁ h₁' => wpAny_mono h₁' (fun ok s₂ h₂' => ?_) fun _ _ e => e) fun _ _ e => e
      cases ok with
      | false =>
        obtain ⟨h₄, tk₄, m₄, rfl, k₄, hn₄, hJ₄⟩ := h₂'
        obtain ⟨a1, a2, a3⟩ := adv k₄
        exact ⟨n - (i + 1), by omega, i + 1, h₄, tk₄, m₄, ys, rfl, hlt, rfl, hJ₄, a1, hn₄, a2, a3⟩
      | true =>
        refine wpAny_mono h₂' (fun y s₃ h₃' => ?_) fun _ _ e => e
        obtain ⟨h₄, tk₄, m₄, rfl, k₄, hn₄, hJ₄⟩ := h₃'
        obtain ⟨a1, a2, a3⟩ := adv k₄
        have hz := hJl _ _ _ _ hJ₄ hlt
        refine wpAny_list_append_plain (s := upd s h₄ tk₄) a2 (fun h₅ hl₅ hs₅ => ?_) (by have : sizeLine = 16777216 := rfl; simp only [List.length_append, List.length_singleton] at hz; simp; omega)
        refine ⟨n - (i + 1), by omega, i + 1, h₅, tk₄, m₄, ys ++ [y], rfl, hlt, rfl, hJs _ _ _ _ _ hJ₄ (fun b o hb e => hs₅.extBut b o (fun e' => hb (by simp [e'])) e) nX, a1.trans fun b o hb e => hs₅.extBut b o (fun e' => hb (by simp [e'])) e, hn₄.sameBut hs₅ hDC.symm, by simpa using hl₅, W.frame _ _ _ a3 fun b hb o e => hs₅.extBut b o (offI b hb).1 e⟩
    · have hin' : i = n := by omega
      subst hin'
      refine W.done _ _ _ hsti fun h₃ tk₃ hk₃ => ?_
      have hk₃' := hx hk₃
      exact fin C D I ys h₃ tk₃ mi (hJs _ _ _ _ _ hJ (fun b o hb e => hk₃' b o (by simp only [List.mem_cons, not_or] at hb; exact hb.2.2.1) e) nX) (kb.trans fun b o hb e => hk₃' b o (by simp only [List.mem_cons, not_or] at hb; exact hb.2.2.1) e) hCh hDh hI hDC.symm (hni.at' fun o e => hk₃' _ o hCI e) (hai.at fun o e => hk₃' _ o hDI e)
  exact codeAny_compStart_list (loop _) (W.self 0 _ _ _ hst₂ (loop _))

theorem comp_core {elt target iter : Expr} {ifs : List Expr} {scope : Scope} {cl : List (Str × Addr)} {pos : Pos} {RR : Value → Addr → Result → Shared → Prop} {xv : Value} {n : Nat} {P : Nat → Value → Prop} {mods : List Addr}
    (J : List Addr → Nat → List Value → Heap → Prop) (src : Src prog w A g h target xv n P) (kg : Sub g h) (hgm : ∀ b ∈ mods, g.get? b = none) (hml : ∀ b ∈ mods, (h.get? b).isSome = true) (hn : n ≤ 1000)
    (hcell : ∀ y ∈ scope.names, y.2 ≠ .cell) (hkind : scope.kind = .function)
    (hJs : ∀ X i ys h₁ h₂, J X i ys h₁ → But X h₁ h₂ → (∀ b ∈ mods, b ∉ X) → J X i ys h₂) (hJ0 : ∀ X h₁, Sub h h₁ → J X 0 [] h₁) (hJl : ∀ X i ys h₁, J X i ys h₁ → i ≤ n → ys.length ≤ 1000)
    (turn : ∀ C D I i v ys h₃ tk₃ m₃, i < n → P i v → J [C, D, I] i ys h₃ → But (C :: D :: I :: mods) h h₃ → h.get? C = none → h.get? D = none → h.get? I = none → (h₃.get? C).isSome = true → (h₃.get? D).isSome = true → (h₃.get? I).isSome = true → h₃.Ns C m₃ →
      wpAny (model prog w) A (assign target (compEnvC scope cl C env) v) (fun _ s₁ => wpAny (model prog w) A (tests ifs (compEnvC scope cl C env))
        (Ways (fun s₂ => wpAny (model prog w) A (eval elt (compEnvC scope cl C env)) (fun y s₃ => CEnd s mods C h₃ (J [C, D, I] (i + 1) (ys ++ [y])) s₃) (fun _ _ => False) s₂) (CEnd s mods C h₃ (J [C, D, I] (i + 1) ys))) (fun _ _ => False) s₁) (fun _ _ => False) (upd s h₃ tk₃))
    (fin : ∀ C D I ys h' tk' m', J [C, D, I] n ys h' → But (C :: D :: I :: mods) h h' → h.get? C = none → h.get? D = none → h.get? I = none → C ≠ D → h'.Ns C m' → h'.PlainList D ys.toArray → RR (.ref D) C (.ok .next) (upd s h' tk')) :
    wpAny (model prog w) A (pyIter xv) (CompB prog w A E env elt target iter ifs scope cl pos RR) E (upd s h tk) := by
  refine src s tk _ _ fun I fp wr St h₁ tk₁ W hst k₁ hI hfp hal hwr hgo => ?_
  refine wpAny_newObj_type (s := upd s h₁ tk₁) (wpAny_newFunctionEnv hcell (by intro y hy; simp at hy) (fun h₂ hns hsb => ?_) hkind) (by show (0 : Nat) ≤ _; exact Nat.zero_le _)
  dsimp only at hns hsb ⊢
  have none_of : ∀ {a : Nat}, h₁.objs.size ≤ a → h.get? a = none := fun {a} ha => by
    cases e : h.get? a with
    | none => rfl
    | some o => exact absurd (Heap.lt_size (k₁ _ _ e)) (Nat.not_lt.mpr ha)
  obtain ⟨oI, hoI⟩ := Option.isSome_iff_exists.mp (hal _ _ hst)
  have hIlt : I < h₁.objs.size := Heap.lt_size hoI
  have hC : (h₁.push { cls := .type "list", dict := none, data := .seq ([] : List Value).toArray }).objs.size = h₁.objs.size + 1 := by simp
  have hDC : h₁.objs.size ≠ (h₁.push { cls := .type "list", dict := none, data := .seq ([] : List Value).toArray }).objs.size := by rw [hC]; exact Nat.ne_of_lt (Nat.lt_succ_self _)
  have kp : ∀ b o, b ≠ (h₁.push { cls := .type "list", dict := none, data := .seq ([] : List Value).toArray }).objs.size → (h₁.push { cls := .type "list", dict := none, data := .seq ([] : List Value).toArray }).get? b = some o → h₂.get? b = some o := fun b o hb e => hsb.extBut b o hb (Heap.get?_push_of_some _ e)
  have k₂ : Sub h₁ h₂ := fun b o e => kp b o (by rw [hC]; exact Nat.ne_of_lt (Nat.lt_succ_of_lt (Heap.lt_size e))) (Heap.get?_push_of_some _ e)
  have hle : h₁.objs.size ≤ (h₁.push { cls := .type "list", dict := none, data := .seq ([] : List Value).toArray }).objs.size := by rw [hC]; exact Nat.le_succ _
  have hCI : (h₁.push { cls := .type "list", dict := none, data := .seq ([] : List Value).toArray }).objs.size ≠ I := by rw [hC]; exact Nat.ne_of_gt (Nat.lt_succ_of_lt hIlt)
  exact comp_core2 J kg hgm hml hn hJs hJ0 hJl turn fin W (W.frame _ _ _ hst fun b _ o e => k₂ b o e) (k₁.trans k₂) hI (none_of (Nat.le_refl _)) (none_of hle) hfp hal hwr hgo hDC (Nat.ne_of_gt hIlt) hCI ⟨0, kp _ _ hDC (Heap.get?_push_size _ rfl)⟩ hns
end
end Mine
end PComp
section PComp2
open PySem PySem.W PyProof.Rows PySem.Calls
set_option Elab.async false
set_option linter.unusedVariables false
set_option maxRecDepth 100000
namespace Mine

section
variable {w : World} {mg mb : Str → Option Value} {g h g' : Heap} {env : Env} {V V' : List (Str × Option Value)} {M M' : List (Addr × (Obj → Prop))}
variable {prog : Program} {A : Around} {E : Value → Shared → Prop} {s : Shared} {tk : Nat}

theorem as_tup {elts : List Expr} {k : Nat} {pos : Pos} {T : Addr} {vs : List Value} {Q : Unit → Shared → Prop} {n : Nat} (R : Room n A) (F : Fx w mg mb g env V M h) (ht : IsT h T vs) (hn : (assignEach elts env).length = vs.length) (hstar : (assignEach elts env).findIdx? (·.1) = none)
    (q : ∀ h', Sub h h' → Fx w mg mb g env V M h' → wpAny (model prog w) A (assignInOrder ((assignEach elts env).map (·.2)) vs) Q E (upd s h' tk)) : wpAny (model prog w) A (assign (.Tuple elts k pos) env (.ref T)) Q E (upd s h tk) := by
  refine wpAny_assign_Tuple (s := upd s h tk) R.handled ht (by simpa using hn) hstar fun h' k' => ?_
  have k₂ : Sub h h' := fun b o e => k' b o (Nat.ne_of_lt (Heap.lt_size e)) e
  exact q h' k₂ (F.ext k₂)
theorem as_o0 {Q : Unit → Shared → Prop} {MM : Model} {s' : Shared} (q : Q () s') : wpAny MM A (assignInOrder [] []) Q E s' := wpAny_assignInOrder_none q
theorem as_o1 {t : Value → Sem Unit} {ts : List (Value → Sem Unit)} {x : Value} {xs : List Value} {Q : Unit → Shared → Prop} {MM : Model} {s' : Shared} (q : wpAny MM A (t x) (fun _ s₁ => wpAny MM A (assignInOrder ts xs) Q E s₁) E s') : wpAny MM A (assignInOrder (t :: ts) (x :: xs)) Q E s' := wpAny_assignInOrder_more q
theorem as_n {x : Str} {pos : Pos} {v : Value} {Q : Unit → Shared → Prop} {MM : Model} {s' : Shared} (q : wpAny MM A (storeName env x v) Q E s') : wpAny MM A (assign (.Name x pos) env v) Q E s' := wpAny_assign_Name q
theorem bn {x : Str} {v : Value} {Q : Unit → Shared → Prop} {MM : Model} {s' : Shared} (q : wpAny MM A (storeName env x v) Q E s') : wpAny MM A (bindName env x v) Q E s' := wpAny_bindName q
theorem x_swap {elts : List Expr} {k : Nat} {tpos pos : Pos} {value : Expr} {names : List Str} {rest : List Stmt} {Q : Flow → Shared → Prop} {s' : Shared}
    (q : wpAny (model prog w) A (eval value env) (fun v s₁ => wpAny (model prog w) A (unpackItems v names.length none) (fun items s₂ => wpAny (model prog w) A (assignInOrder (names.reverse.map fun n => bindName env n) items.reverse) (fun _ s₃ => wpAny (model prog w) A (execs rest env) Q E s₃) E s₂) E s₁) E s')
    (hs : swapsWithSole [.Tuple elts k tpos] value pos.line env = pure false := by rfl) (hw : swappedStores [.Tuple elts k tpos] value env = pure (some names) := by rfl) : wpAny (model prog w) A (execs (.Assign [.Tuple elts k tpos] value pos :: rest) env) Q E s' :=
  wpAny_execs_cons (Assign_Tuple_swapped q hs hw)
theorem u_tup {T : Addr} {vs : List Value} {Q : List Value → Shared → Prop} {n m : Nat} (R : Room n A) (F : Fx w mg mb g env V M h) (ht : IsT h T vs) (hm : m = vs.length) (q : ∀ h', Sub h h' → Fx w mg mb g env V M h' → Q vs (upd s h' tk)) : wpAny (model prog w) A (unpackItems (.ref T) m none) Q E (upd s h tk) := by
  have hm' : m = vs.toArray.size := by simp [hm]
  rw [hm']
  refine wpAny_unpackItems_tuple (s := upd s h tk) R.handled ht fun h' k' => ?_
  have k₂ : Sub h h' := fun b o e => k' b o (Nat.ne_of_lt (Heap.lt_size e)) e
  show Q vs.toArray.toList _
  rw [List.toList_toArray]
  exact q h' k₂ (F.ext k₂)
theorem x_tup {elts : List Expr} {k : Nat} {tpos pos : Pos} {value : Expr} {rest : List Stmt} {Q : Flow → Shared → Prop} {s' : Shared}
    (q : wpAny (model prog w) A (eval value env) (fun v s₁ => wpAny (model prog w) A (assign (.Tuple elts k tpos) env v) (fun _ s₃ => wpAny (model prog w) A (execs rest env) Q E s₃) E s₁) E s')
    (hs : swapsWithSole [.Tuple elts k tpos] value pos.line env = pure false := by rfl) (hw : swappedStores [.Tuple elts k tpos] value env = pure none := by rfl) : wpAny (model prog w) A (execs (.Assign [.Tuple elts k tpos] value pos :: rest) env) Q E s' := by
  exact wpAny_execs_cons (Assign_Tuple q hs hw)

noncomputable def CompE (prog : Program) (w : World) (A : Around) (E : Value → Shared → Prop) (env : Env) (elt target iter : Expr) (ifs : List Expr) (scope : Scope) (cl : List (Str × Addr)) (pos : Pos) (Q : Value → Shared → Prop) (xv : Value) (s₁ : Shared) : Prop :=
  wpAny (model prog w) A (pyIter xv) (CompB prog w A E env elt target iter ifs scope cl pos (fun acc C => compPost (model prog w) A E none Q acc C)) E s₁
noncomputable def CompA (prog : Program) (w : World) (A : Around) (E : Value → Shared → Prop) (env : Env) (elt target iter : Expr) (ifs : List Expr) (scope : Scope) (cl : List (Str × Addr)) (pos : Pos) (y : Str) (py : Pos) (rest : List Stmt) (Q : Flow → Shared → Prop) (xv : Value) (s₁ : Shared) : Prop :=
  wpAny (model prog w) A (pyIter xv) (CompB prog w A E env elt target iter ifs scope cl pos (fun acc C => compPost (model prog w) A E (some (assign (.Name y py) env)) (fun _ s' => wpAny (model prog w) A (execs rest env) Q E s') acc C)) E s₁
theorem e_comp {elt target iter : Expr} {ifs : List Expr} {scope : Scope} {cl : List (Str × Addr)} {pos : Pos} {Q : Value → Shared → Prop} {s' : Shared}
    (q : wpAny (model prog w) A (eval iter env) (CompE prog w A E env elt target iter ifs scope cl pos Q) E s')
    (hclos : closureFor scope env = pure cl) (hkind : scope.kind = .function) (hnames : ∀ y ∈ scope.names, y.2 = .local → scope.names.lookup y.1 = some .local) (hs : ∀ x, foldedSetIterable iter env x = pure x) :
    wpAny (model prog w) A (eval (.ListComp elt [⟨target, iter, ifs, 0⟩] scope pos) env) Q E s' := by
  rw [eval_ListComp]
  exact wpAny_comprehension_free (use := none) rfl hs hclos hkind hnames q
theorem x_comp {elt target iter : Expr} {ifs : List Expr} {scope : Scope} {cl : List (Str × Addr)} {pos spos py : Pos} {y : Str} {rest : List Stmt} {Q : Flow → Shared → Prop} {s' : Shared}
    (q : wpAny (model prog w) A (eval iter env) (CompA prog w A E env elt target iter ifs scope cl pos y py rest Q) E s')
    (hsw : swapsWith (.ListComp elt [⟨target, iter, ifs, 0⟩] scope pos) (some (.Name y py)) spos.line env = pure true)
    (hclos : closureFor scope env = pure cl) (hkind : scope.kind = .function) (hnames : ∀ y ∈ scope.names, y.2 = .local → scope.names.lookup y.1 = some .local) (hs : ∀ x, foldedSetIterable iter env x = pure x) :
    wpAny (model prog w) A (execs (.Assign [.Name y py] (.ListComp elt [⟨target, iter, ifs, 0⟩] scope pos) spos :: rest) env) Q E s' := by
  refine wpAny_execs_cons ?_
  rw [exec_Assign_Name_used _ _ _ _ hsw]
  refine wpAny_bind (wpAny_standAt (wpAny_bind ?_))
  show wpAny _ A (do let _ ← comprehension (.ListComp elt [⟨target, iter, ifs, 0⟩] scope pos) scope env _ (newList []) false (eval iter env) (some (assign (.Name y py) env))) _ _ s'
  exact wpAny_bind (wpAny_mono (wpAny_comprehension_free (use := some (assign (.Name y py) env)) (Q := fun _ s' => wpAny (model prog w) A (execs rest env) Q E s') rfl hs hclos hkind hnames q) (fun _ s' hq => wpAny_pure (wpAny_pure hq)) fun _ _ e => e)

noncomputable def PEnd (s : Shared) (h₃ : Heap) (J : Heap → Prop) (s' : Shared) : Prop := ∃ h₄ tk₄, s' = upd s h₄ tk₄ ∧ Sub h₃ h₄ ∧ J h₄
theorem PEnd.mk' {h₃ h₄ : Heap} {J : Heap → Prop} {tk₄ : Nat} (k : Sub h₃ h₄) (j : J h₄) : PEnd s h₃ J (upd s h₄ tk₄) := ⟨h₄, tk₄, rfl, k, j⟩
noncomputable def Cap (env : Env) (scope : Scope) (cl : List (Str × Addr)) (V : List (Str × Option Value)) (p : Str × Option Value) : Prop :=
  (relabel scope env).names.lookup p.1 = some .cell ∧ ∃ c, cl.lookup p.1 = some c ∧ env.cells.lookup p.1 = some c ∧ env.kindOf p.1 = some .cell ∧ p ∈ V

section
variable {elt iter : Expr} {ifs : List Expr} {scope : Scope} {cl : List (Str × Addr)} {pos : Pos} {xv : Value} {n : Nat} {P : Nat → Value → Prop}

theorem cap_var {p : Str × Option Value} {C : Addr} {m m₃ : Str → Option Value} {h₃ : Heap} (c : Cap env scope cl V p) (hv : ∀ p ∈ V, VarIs env m h p.1 p.2) (k : Sub h h₃) : VarIs (compEnvC scope cl C env) m₃ h₃ p.1 p.2 := by
  obtain ⟨a, c, b, d, e, f⟩ := c
  rcases hv p f with ⟨x, _⟩ | ⟨_, c', y, z⟩
  · rw [e] at x; cases x
  · rw [d] at y; cases y; exact .inr ⟨a, c, b, z.keeps k⟩

theorem comp_name {x : Str} {px : Pos} {RR : Value → Addr → Result → Shared → Prop} (J : List Addr → Nat → List Value → Heap → Prop) (VC : Value → List (Str × Option Value)) {kR : Nat} (R : Room kR A)
    (F : Fx w mg mb g env V M h) (src : Src prog w A g h (.Name x px) xv n P) (hn : n ≤ 1000) (hcell : ∀ y ∈ scope.names, y.2 ≠ .cell) (hkind : scope.kind = .function) (hx : scope.names.lookup x = some .local)
    (hVC : ∀ v, ∀ p ∈ VC v, p = (x, some v) ∨ Cap env scope cl V p)
    (hJs : ∀ X i ys h₁ h₂, J X i ys h₁ → But X h₁ h₂ → J X i ys h₂) (hJ0 : ∀ X h₁, Sub h h₁ → J X 0 [] h₁) (hJl : ∀ X i ys h₁, J X i ys h₁ → i ≤ n → ys.length ≤ 1000)
    (turn : ∀ C D I i v ys h₃ tk₃, i < n → P i v → J [C, D, I] i ys h₃ → Sub h h₃ → (h₃.get? C).isSome = true → (h₃.get? D).isSome = true → (h₃.get? I).isSome = true → Rd w mg mb h (compEnvC scope cl C env) (VC v) h₃ →
      wpAny (model prog w) A (tests ifs (compEnvC scope cl C env)) (Ways (fun s₂ => wpAny (model prog w) A (eval elt (compEnvC scope cl C env)) (fun y s₃ => PEnd s h₃ (J [C, D, I] (i + 1) (ys ++ [y])) s₃) (fun _ _ => False) s₂) (PEnd s h₃ (J [C, D, I] (i + 1) ys))) (fun _ _ => False) (upd s h₃ tk₃))
    (fin : ∀ C D I ys h' tk' m', J [C, D, I] n ys h' → Sub h h' → h.get? C = none → h.get? D = none → h.get? I = none → C ≠ D → h'.Ns C m' → h'.PlainList D ys.toArray → RR (.ref D) C (.ok .next) (upd s h' tk')) :
    wpAny (model prog w) A (pyIter xv) (CompB prog w A E env elt (.Name x px) iter ifs scope cl pos RR) E (upd s h tk) := by
  have sub_of : ∀ {C D I : Addr} {h₃ : Heap}, But (C :: D :: I :: []) h h₃ → h.get? C = none → h.get? D = none → h.get? I = none → Sub h h₃ := fun k a b c x o e => k x o (by
    simp only [List.mem_cons, List.not_mem_nil, or_false, not_or]
    exact ⟨fun e' => (by rw [e', a] at e; cases e), fun e' => (by rw [e', b] at e; cases e), fun e' => (by rw [e', c] at e; cases e)⟩) e
  refine comp_core (mods := []) J src F.keep (by simp) (by simp) hn hcell hkind (fun X i ys h₁ h₂ a b _ => hJs X i ys h₁ h₂ a b) hJ0 hJl ?_ (fun C D I ys h' tk' m' j k a b c d e f => fin C D I ys h' tk' m' j (sub_of k a b c) a b c d e f)
  intro C D I i v ys h₃ tk₃ m₃ hi hP hJ kb hC hD hI lC lD lI hn₃
  have k₃ := sub_of kb hC hD hI
  refine wpAny_assign_Name (wpAny_storeName_local (env := compEnvC scope cl C env) (lookup_relabel_local hx) hn₃ (fun h₄ hn₄ hs₄ => ?_) (by simp [compEnvC, relabel, hkind]))
  have k₄ : Sub h h₄ := fun b o e => hs₄.extBut b o (fun e' => by rw [e'] at e; exact (by rw [show (compEnvC scope cl C env).locals = C from rfl, hC] at e; cases e)) (k₃ b o e)
  have kk : ∀ b, (h₃.get? b).isSome = true → (h₄.get? b).isSome = true := by
    intro b hb
    by_cases e : b = C
    · subst e; obtain ⟨o, _, _, ho, _⟩ := hn₄; rw [show (compEnvC scope cl b env).locals = b from rfl] at ho; rw [ho]; rfl
    · obtain ⟨o, ho⟩ := Option.isSome_iff_exists.mp hb; rw [hs₄.extBut b o e ho]; rfl
  obtain ⟨mo, hmo, hvo⟩ := F.vars
  have hR : Rd w mg mb h (compEnvC scope cl C env) (VC v) h₄ :=
    { fn := hkind, gl := F.gl, bu := F.bu, wd := F.wdh, keep := k₄, vars := ⟨_, hn₄, fun p hp => by
        rcases hVC v p hp with rfl | c
        · exact .inl ⟨lookup_relabel_local hx, by simp⟩
        · exact cap_var c hvo k₄⟩ }
  have hJ₄ := hJs _ _ _ h₃ h₄ hJ fun b o hb e => hs₄.extBut b o (fun e' => hb (by rw [e']; exact .head _)) e
  have conv : ∀ {JJ : Heap → Prop} {s' : Shared}, PEnd s h₄ JJ s' → CEnd s [] C h₃ JJ s' := by
    rintro JJ s' ⟨h₅, tk₅, rfl, k₅, j₅⟩
    exact ⟨h₅, tk₅, _, rfl, fun b o hb e => k₅ b o (hs₄.extBut b o (fun e' => hb (by rw [e']; exact .head _)) e), hn₄.keeps k₅, j₅⟩
  refine wpAny_mono (turn C D I i v ys h₄ _ hi hP hJ₄ k₄ (kk C lC) (kk D lD) (kk I lI) hR) (fun ok s₂ h₂ => ?_) fun _ _ e => e
  cases ok with
  | false => exact conv h₂
  | true => exact wpAny_mono h₂ (fun y s₃ h₃ => conv h₃) fun _ _ e => e

theorem compE_fin {Q : Value → Shared → Prop} {C D : Addr} {ys : List Value} {h' : Heap} {tk' : Nat} {m' : Str → Option Value} (F : Fx w mg mb g env V M h) (k : Sub h h') (hC : h.get? C = none) (hD : h.get? D = none) (hne : C ≠ D) (hn : h'.Ns C m') (hp : h'.PlainList D ys.toArray)
    (q : ∀ h'' tk'', Sub h h'' → Heap.SameBut C h' h'' → Fx w mg mb g env V ((D, LstP ys) :: M) h'' → Q (.ref D) (upd s h'' tk'')) : compPost (model prog w) A E none Q (.ref D) C (.ok .next) (upd s h' tk') := by
  refine ⟨m', hn, fun h'' hs => ?_⟩
  have k₂ : Sub h h'' := fun b o e => hs.extBut b o (fun e' => by rw [e', hC] at e; cases e) (k b o e)
  obtain ⟨nn, e⟩ := hp
  exact q h'' tk' k₂ hs (F.adopt k₂ hD (hs.extBut D _ hne.symm e) ⟨nn, rfl⟩)
theorem compA_fin {y : Str} {py : Pos} {rest : List Stmt} {Q : Flow → Shared → Prop} {C D : Addr} {ys : List Value} {h' : Heap} {tk' : Nat} {m' : Str → Option Value} (F : Fx w mg mb g env V M h) (hput : Put y (some (.ref D)) V V') (k : Sub h h') (hC : h.get? C = none) (hD : h.get? D = none) (hne : C ≠ D) (hn : h'.Ns C m') (hp : h'.PlainList D ys.toArray)
    (q : ∀ h'' tk'', (∀ b o, b ∉ env.locals :: C :: (env.cells.map (·.2)) → h'.get? b = some o → h''.get? b = some o) → Fx w mg mb g env V' ((D, LstP ys) :: M) h'' → wpAny (model prog w) A (execs rest env) Q E (upd s h'' tk'')) :
    compPost (model prog w) A E (some (assign (.Name y py) env)) (fun _ s' => wpAny (model prog w) A (execs rest env) Q E s') (.ref D) C (.ok .next) (upd s h' tk') := by
  obtain ⟨oC, es, ep, eC, rC⟩ := id hn
  obtain ⟨nn, eD⟩ := hp
  have F₁ := F.adopts k [(C, (· = oC)), (D, LstP ys)] (by
    intro p hp
    simp only [List.mem_cons, List.not_mem_nil, or_false] at hp
    rcases hp with rfl | rfl
    · exact ⟨hC, _, eC, rfl⟩
    · exact ⟨hD, _, eD, nn, rfl⟩) (by simp [hne])
  show wpAny _ A (assign (.Name y py) env (.ref D)) _ _ _
  refine wpAny_assign_Name (stB F₁ hput fun h₂ tk₂ kb F₂ => ?_)
  obtain ⟨o, eo, rfl⟩ := F₂.own _ (.head _)
  refine ⟨m', ⟨_, es, ep, eo, rC⟩, fun h₃ hs => ?_⟩
  refine q h₃ tk₂ (fun b o hb e => ?_) (F₂.behead hs.extBut)
  simp only [List.mem_cons, not_or] at hb
  exact hs.extBut b o hb.2.1 (kb b o (by simp only [List.mem_cons, not_or]; exact ⟨hb.1, hb.2.2⟩) e)
end
end
end Mine
end PComp2
section PBi
open PySem PySem.W PyProof.Rows PySem.Calls
set_option Elab.async false
set_option linter.unusedVariables false
set_option maxRecDepth 100000
namespace Mine
section
variable {w : World} {mg mb : Str → Option Value} {g h : Heap} {env : Env} {V V' : List (Str × Option Value)} {M M' : List (Addr × (Obj → Prop))}
variable {prog : Program} {A : Around} {E : Value → Shared → Prop} {s : Shared} {tk n : Nat} {Q : Value → Shared → Prop}

theorem sub_iter {h h' : Heap} {o : Obj} (hk : ∀ b x, b ∉ [h.objs.size] → (h.push o).get? b = some x → h'.get? b = some x) : Sub h h' :=
  fun b x e => hk b x (fun hm => by rw [List.mem_singleton.mp hm] at e; exact Nat.lt_irrefl _ (Heap.lt_size e)) (Heap.get?_push_of_some _ e)

theorem b_any {l : Addr} {vs : List Value} (bs : List Bool) (R : Room n A) (hl : IsL h l vs) (hb : vs = bs.map .bool) (q : ∀ h' tk', Sub h h' → Q (.bool (bs.any id)) (upd s h' tk')) : wpAny (model prog w) A (call (.builtin "any") [.ref l]) Q E (upd s h tk) := by
  have hlt : l < h.objs.size := by obtain ⟨_, e, _⟩ := hl; exact Heap.lt_size e
  refine call_any_walk (s := upd s h tk) (wpAny_pyIter_list (s := upd s h tk) hl ?_)
  refine ⟨h.objs.size, [h.objs.size, l], [h.objs.size], vs.toArray.size, fun i v => vs.toArray[i]? = some v, fun i h => h.IsListIter _ l i ∧ h.IsList l vs.toArray, fun i => (bs[i]?).getD false, rfl, Walks.list (A := A.in1) R.handled _ l (Nat.ne_of_lt hlt) vs.toArray,
    ⟨⟨_, Heap.get?_push_size _ rfl, rfl, rfl⟩, IsL.up (Sub.push _ _) hl⟩, fun i v s' Q' E' hP hQ => ?_, fun h' tk' hk => ?_⟩
  · subst hb
    rw [List.getElem?_toArray, List.getElem?_map] at hP
    cases e : bs[i]? with
    | none => rw [e] at hP; cases hP
    | some b =>
      rw [e] at hP
      cases hP
      simp only [e, Option.getD_some] at hQ
      exact wpAny_truthy_bool hQ
  · have e : ((List.range vs.toArray.size).any fun i => (bs[i]?).getD false) = bs.any id := by
      subst hb
      rw [List.size_toArray, List.length_map]
      rw [Bool.eq_iff_iff]
      simp only [List.any_eq_true, List.mem_range, id]
      constructor
      · rintro ⟨i, hi, e⟩
        rw [List.getElem?_eq_getElem hi] at e
        exact ⟨bs[i], List.getElem_mem hi, e⟩
      · rintro ⟨b, hb, e⟩
        obtain ⟨i, hi, rfl⟩ := List.mem_iff_getElem.mp hb
        exact ⟨i, hi, by rw [List.getElem?_eq_getElem hi]; exact e⟩
    rw [e]
    exact q h' tk' (sub_iter hk)
theorem b_max2 {a b : Int} {t u : Tok} (R : Room n A) (q : ∀ h' t tk', Sub h h' → Q (.int (max a b) t) (upd s h' tk')) : wpAny (model prog w) A (call (.builtin "max") [.int a t, .int b u]) Q E (upd s h tk) := by
  refine max_two_ints (s := upd s h tk) R.handled fun h' tk' hk => ?_
  by_cases c : b > a
  · simp only [if_pos c]; rw [show b = max a b by omega]; exact q h' _ tk' hk
  · simp only [if_neg c]; rw [show a = max a b by omega]; exact q h' _ tk' hk
theorem b_min2 {a b : Int} {t u : Tok} (R : Room n A) (q : ∀ h' t tk', Sub h h' → Q (.int (min a b) t) (upd s h' tk')) : wpAny (model prog w) A (call (.builtin "min") [.int a t, .int b u]) Q E (upd s h tk) := by
  refine min_two_ints (s := upd s h tk) R.handled fun h' tk' hk => ?_
  by_cases c : b < a
  · simp only [if_pos c]; rw [show b = min a b by omega]; exact q h' _ tk' hk
  · simp only [if_neg c]; rw [show a = min a b by omega]; exact q h' _ tk' hk
end
end Mine
end PBi
section PComp3
open PySem PySem.W PyProof.Rows PySem.Calls
set_option Elab.async false
set_option linter.unusedVariables false
set_option maxRecDepth 100000
namespace Mine
section
variable {w : World} {mg mb : Str → Option Value} {g h g' : Heap} {env : Env} {V V' : List (Str × Option Value)} {M M' : List (Addr × (Obj → Prop))}
variable {prog : Program} {A : Around} {E : Value → Shared → Prop} {s : Shared} {tk : Nat}
variable {elt iter : Expr} {ifs : List Expr} {scope : Scope} {cl : List (Str × Addr)} {pos : Pos} {xv : Value} {n kR : Nat} {P : Nat → Value → Prop}

theorem comp_pair {x y : Str} {px py tp : Pos} {kk : Nat} {RR : Value → Addr → Result → Shared → Prop} (J : List Addr → Nat → List Value → Heap → Prop) (VC : Value → Value → List (Str × Option Value)) (R : Room kR A)
    (F : Fx w mg mb g env V M h) (src : Src prog w A g h (.Tuple [.Name x px, .Name y py] kk tp) xv n P) (hn : n ≤ 1000) (hcell : ∀ y ∈ scope.names, y.2 ≠ .cell) (hkind : scope.kind = .function) (hx : scope.names.lookup x = some .local) (hy : scope.names.lookup y = some .local) (hxy : x ≠ y)
    (PP : Nat → Value → Value → Prop) (hPP : ∀ i v, P i v → ∃ T a b, v = .ref T ∧ IsT h T [a, b] ∧ PP i a b)
    (hVC : ∀ a b, ∀ p ∈ VC a b, p = (x, some a) ∨ p = (y, some b) ∨ Cap env scope cl V p)
    (hJs : ∀ X i ys h₁ h₂, J X i ys h₁ → But X h₁ h₂ → J X i ys h₂) (hJ0 : ∀ X h₁, Sub h h₁ → J X 0 [] h₁) (hJl : ∀ X i ys h₁, J X i ys h₁ → i ≤ n → ys.length ≤ 1000)
    (turn : ∀ C D I i a b ys h₃ tk₃, i < n → PP i a b → J [C, D, I] i ys h₃ → Sub h h₃ → (h₃.get? C).isSome = true → (h₃.get? D).isSome = true → (h₃.get? I).isSome = true → Rd w mg mb h (compEnvC scope cl C env) (VC a b) h₃ →
      wpAny (model prog w) A (tests ifs (compEnvC scope cl C env)) (Ways (fun s₂ => wpAny (model prog w) A (eval elt (compEnvC scope cl C env)) (fun y s₃ => PEnd s h₃ (J [C, D, I] (i + 1) (ys ++ [y])) s₃) (fun _ _ => False) s₂) (PEnd s h₃ (J [C, D, I] (i + 1) ys))) (fun _ _ => False) (upd s h₃ tk₃))
    (fin : ∀ C D I ys h' tk' m', J [C, D, I] n ys h' → Sub h h' → h.get? C = none → h.get? D = none → h.get? I = none → C ≠ D → h'.Ns C m' → h'.PlainList D ys.toArray → RR (.ref D) C (.ok .next) (upd s h' tk')) :
    wpAny (model prog w) A (pyIter xv) (CompB prog w A E env elt (.Tuple [.Name x px, .Name y py] kk tp) iter ifs scope cl pos RR) E (upd s h tk) := by
  have sub_of : ∀ {C D I : Addr} {h₃ : Heap}, But (C :: D :: I :: []) h h₃ → h.get? C = none → h.get? D = none → h.get? I = none → Sub h h₃ := fun k a b c x o e => k x o (by
    simp only [List.mem_cons, List.not_mem_nil, or_false, not_or]
    exact ⟨fun e' => (by rw [e', a] at e; cases e), fun e' => (by rw [e', b] at e; cases e), fun e' => (by rw [e', c] at e; cases e)⟩) e
  refine comp_core (mods := []) J src F.keep (by simp) (by simp) hn hcell hkind (fun X i ys h₁ h₂ a b _ => hJs X i ys h₁ h₂ a b) hJ0 hJl ?_ (fun C D I ys h' tk' m' j k a b c d e f => fin C D I ys h' tk' m' j (sub_of k a b c) a b c d e f)
  intro C D I i v ys h₃ tk₃ m₃ hi hP hJ kb hC hD hI lC lD lI hn₃
  have k₃ := sub_of kb hC hD hI
  obtain ⟨T, a, b, rfl, hT, hPPi⟩ := hPP i v hP
  have pk : ((compEnvC scope cl C env).scope.kind == .class || ((compEnvC scope cl C env).scope.kind == .module && (compEnvC scope cl C env).locals != (compEnvC scope cl C env).globals)) = false := by simp [compEnvC, relabel, hkind]
  refine wpAny_assign_Tuple (s := upd s h₃ tk₃) R.handled (hT.up k₃) rfl rfl fun h₄ x₄ => ?_
  have k₄ : Sub h₃ h₄ := fun b o e => x₄ b o (Nat.ne_of_lt (Heap.lt_size e)) e
  show wpAny _ _ (assignInOrder [assign (.Name x px) (compEnvC scope cl C env), assign (.Name y py) (compEnvC scope cl C env)] [a, b]) _ _ _
  refine wpAny_assignInOrder_more (wpAny_assign_Name (wpAny_storeName_local (env := compEnvC scope cl C env) (lookup_relabel_local hx) (hn₃.keeps k₄) (fun h₅ hn₅ hs₅ => ?_) pk))
  refine wpAny_assignInOrder_more (wpAny_assign_Name (wpAny_storeName_local (env := compEnvC scope cl C env) (lookup_relabel_local hy) hn₅ (fun h₆ hn₆ hs₆ => ?_) pk))
  refine wpAny_assignInOrder_none ?_
  have k₆ : ∀ b o, b ≠ C → h₃.get? b = some o → h₆.get? b = some o := fun b o hb e => hs₆.extBut b o hb (hs₅.extBut b o hb (k₄ b o e))
  have kh : Sub h h₆ := fun b o e => k₆ b o (fun e' => by rw [e', hC] at e; cases e) (k₃ b o e)
  have kk : ∀ b, (h₃.get? b).isSome = true → (h₆.get? b).isSome = true := by
    intro b hb
    by_cases e : b = C
    · subst e; obtain ⟨o, _, _, ho, _⟩ := hn₆; rw [show (compEnvC scope cl b env).locals = b from rfl] at ho; rw [ho]; rfl
    · obtain ⟨o, ho⟩ := Option.isSome_iff_exists.mp hb; rw [k₆ b o e ho]; rfl
  obtain ⟨mo, hmo, hvo⟩ := F.vars
  have hR : Rd w mg mb h (compEnvC scope cl C env) (VC a b) h₆ :=
    { fn := hkind, gl := F.gl, bu := F.bu, wd := F.wdh, keep := kh, vars := ⟨_, hn₆, fun p hp => by
        rcases hVC a b p hp with rfl | rfl | c
        · exact .inl ⟨lookup_relabel_local hx, by simp [hxy]⟩
        · exact .inl ⟨lookup_relabel_local hy, by simp⟩
        · exact cap_var c hvo kh⟩ }
  have bX : But [C, D, I] h₃ h₆ := fun b o hb e => k₆ b o (fun e' => hb (by rw [e']; exact .head _)) e
  have conv : ∀ {JJ : Heap → Prop} {s' : Shared}, PEnd s h₆ JJ s' → CEnd s [] C h₃ JJ s' := by
    rintro JJ s' ⟨h₇, tk₇, rfl, k₇, j₇⟩
    exact ⟨h₇, tk₇, _, rfl, fun b o hb e => k₇ b o (k₆ b o (fun e' => hb (by rw [e']; exact .head _)) e), hn₆.keeps k₇, j₇⟩
  refine wpAny_mono (turn C D I i a b ys h₆ _ hi hPPi (hJs _ _ _ h₃ h₆ hJ bX) kh (kk C lC) (kk D lD) (kk I lI) hR) (fun ok s₂ h₂ => ?_) fun _ _ e => e
  cases ok with
  | false => exact conv h₂
  | true => exact wpAny_mono h₂ (fun y s₃ h₃ => conv h₃) fun _ _ e => e

noncomputable def NewTs {α : Type} (h : Heap) (G : α → List Value → Prop) (X : List Addr) (ds : List α) (ys : List Value) (h' : Heap) : Prop :=
  Paired (fun d y => ∃ T us, y = .ref T ∧ T ∉ X ∧ h.get? T = none ∧ IsT h' T us ∧ G d us) ds ys
noncomputable def Tups {α : Type} (G : α → List Value → Prop) (ds : List α) (ys : List Value) (g : Heap) : Prop := Paired (fun d y => ∃ T us, y = .ref T ∧ IsT g T us ∧ G d us) ds ys
theorem Tups.up {α : Type} {G : α → List Value → Prop} {ds : List α} {ys : List Value} {g h : Heap} (k : Sub g h) (x : Tups G ds ys g) : Tups G ds ys h := Paired.mono (fun _ _ ⟨T, us, a, b, c⟩ => ⟨T, us, a, b.up k, c⟩) x
theorem NewTs.but {α : Type} {G : α → List Value → Prop} {X : List Addr} {ds : List α} {ys : List Value} {h₁ h₂ : Heap} (x : NewTs h G X ds ys h₁) (k : But X h₁ h₂) : NewTs h G X ds ys h₂ :=
  Paired.mono (fun _ _ ⟨T, us, a, b, c, ⟨o, ho, r⟩, e⟩ => ⟨T, us, a, b, c, ⟨o, k T o b ho, r⟩, e⟩) x
theorem NewTs.sub {α : Type} {G : α → List Value → Prop} {X : List Addr} {ds : List α} {ys : List Value} {h₁ h₂ : Heap} (x : NewTs h G X ds ys h₁) (k : Sub h₁ h₂) : NewTs h G X ds ys h₂ := x.but (But.of_sub k)
theorem NewTs.add {α : Type} {G : α → List Value → Prop} {X : List Addr} {ds : List α} {ys : List Value} {h₁ : Heap} {d : α} {T : Addr} {us : List Value} (x : NewTs h G X ds ys h₁) (hX : T ∉ X) (hn : h.get? T = none) (ht : IsT h₁ T us) (hg : G d us) : NewTs h G X (ds ++ [d]) (ys ++ [.ref T]) h₁ :=
  Paired.snoc x ⟨T, us, rfl, hX, hn, ht, hg⟩
theorem NewTs.length {α : Type} {G : α → List Value → Prop} {X : List Addr} {ds : List α} {ys : List Value} {h₁ : Heap} (x : NewTs h G X ds ys h₁) : ys.length = ds.length := (Paired.length x).symm

theorem NewTs.tups {α : Type} {G : α → List Value → Prop} {X : List Addr} {ds : List α} {ys : List Value} {h₁ : Heap} (x : NewTs h G X ds ys h₁) : Tups G ds ys h₁ := Paired.mono (fun _ _ ⟨T, us, a, _, _, c, e⟩ => ⟨T, us, a, c, e⟩) x
theorem NewTs.froz {α : Type} {G : α → List Value → Prop} {X : List Addr} {ds : List α} {ys : List Value} {h' : Heap} {D : Addr} {P : Obj → Prop} (F : Fx w mg mb g env V M h) (F' : Fx w mg mb g env V' ((D, P) :: M) h') (hD : D ∈ X) (x : NewTs h G X ds ys h') : NewTs h G [] ds ys (frz env ((D, P) :: M) h') := by
  refine Paired.mono (fun _ _ ⟨T, us, a, b, c, ⟨o, ho, r⟩, e⟩ => ⟨T, us, a, List.not_mem_nil, c, ⟨o, F'.frz_get ho ?_, r⟩, e⟩) x
  have := F.new_out c
  simp only [List.map_cons, List.mem_cons, List.mem_append, not_or] at this ⊢
  exact ⟨this.1, this.2.1, fun e => b (e ▸ hD), this.2.2⟩

section
variable {x y : Str} {px py tp : Pos} {kk : Nat} {Q : Value → Shared → Prop}
theorem compE_s (O : Nat → List Value → Prop) (VC : Value → List (Str × Option Value)) (R : Room kR A) (F : Fx w mg mb g env V M h) (src : Src prog w A g h (.Name x px) xv n P) (hn : n ≤ 1000)
    (hVC : ∀ v, ∀ p ∈ VC v, p = (x, some v) ∨ Cap env scope cl V p) (hO0 : O 0 []) (hOl : ∀ i ys, O i ys → i ≤ n → ys.length ≤ 1000)
    (turn : ∀ C i v ys h₃ tk₃, i < n → P i v → O i ys → Sub h h₃ → Rd w mg mb h (compEnvC scope cl C env) (VC v) h₃ →
      wpAny (model prog w) A (tests ifs (compEnvC scope cl C env)) (Ways (fun s₂ => wpAny (model prog w) A (eval elt (compEnvC scope cl C env)) (fun y s₃ => PEnd s h₃ (fun _ => O (i + 1) (ys ++ [y])) s₃) (fun _ _ => False) s₂) (PEnd s h₃ (fun _ => O (i + 1) ys))) (fun _ _ => False) (upd s h₃ tk₃))
    (fin : ∀ D ys h' tk', O n ys → Sub h h' → h.get? D = none → Fx w mg mb g env V ((D, LstP ys) :: M) h' → Q (.ref D) (upd s h' tk'))
    (hcell : ∀ y ∈ scope.names, y.2 ≠ .cell) (hkind : scope.kind = .function) (hx : scope.names.lookup x = some .local) :
    CompE prog w A E env elt (.Name x px) iter ifs scope cl pos Q xv (upd s h tk) :=
  comp_name (fun _ i ys _ => O i ys) VC R F src hn hcell hkind hx hVC (fun _ _ _ _ _ a _ => a) (fun _ _ _ => hO0) (fun _ i ys _ a b => hOl i ys a b) (fun C D I i v ys h₃ tk₃ a b c d _ _ _ e => turn C i v ys h₃ tk₃ a b c d e)
    fun C D I ys h' tk' m' o k hC hD _ hne hns hp => compE_fin F k hC hD hne hns hp fun h'' tk'' k'' _ F'' => fin D ys h'' tk'' o k'' hD F''
theorem compE_sp (O : Nat → List Value → Prop) (VC : Value → Value → List (Str × Option Value)) (PP : Nat → Value → Value → Prop) (R : Room kR A) (F : Fx w mg mb g env V M h) (src : Src prog w A g h (.Tuple [.Name x px, .Name y py] kk tp) xv n P) (hn : n ≤ 1000)
    (hPP : ∀ i v, P i v → ∃ T a b, v = .ref T ∧ IsT h T [a, b] ∧ PP i a b)
    (hVC : ∀ a b, ∀ p ∈ VC a b, p = (x, some a) ∨ p = (y, some b) ∨ Cap env scope cl V p) (hO0 : O 0 []) (hOl : ∀ i ys, O i ys → i ≤ n → ys.length ≤ 1000)
    (turn : ∀ C i a b ys h₃ tk₃, i < n → PP i a b → O i ys → Sub h h₃ → Rd w mg mb h (compEnvC scope cl C env) (VC a b) h₃ →
      wpAny (model prog w) A (tests ifs (compEnvC scope cl C env)) (Ways (fun s₂ => wpAny (model prog w) A (eval elt (compEnvC scope cl C env)) (fun y s₃ => PEnd s h₃ (fun _ => O (i + 1) (ys ++ [y])) s₃) (fun _ _ => False) s₂) (PEnd s h₃ (fun _ => O (i + 1) ys))) (fun _ _ => False) (upd s h₃ tk₃))
    (fin : ∀ D ys h' tk', O n ys → Sub h h' → h.get? D = none → Fx w mg mb g env V ((D, LstP ys) :: M) h' → Q (.ref D) (upd s h' tk'))
    (hcell : ∀ y ∈ scope.names, y.2 ≠ .cell) (hkind : scope.kind = .function) (hx : scope.names.lookup x = some .local) (hy : scope.names.lookup y = some .local) (hxy : x ≠ y) :
    CompE prog w A E env elt (.Tuple [.Name x px, .Name y py] kk tp) iter ifs scope cl pos Q xv (upd s h tk) :=
  comp_pair (fun _ i ys _ => O i ys) VC R F src hn hcell hkind hx hy hxy PP hPP hVC (fun _ _ _ _ _ a _ => a) (fun _ _ _ => hO0) (fun _ i ys _ a b => hOl i ys a b) (fun C D I i a b ys h₃ tk₃ c d e f _ _ _ r => turn C i a b ys h₃ tk₃ c d e f r)
    fun C D I ys h' tk' m' o k hC hD _ hne hns hp => compE_fin F k hC hD hne hns hp fun h'' tk'' k'' _ F'' => fin D ys h'' tk'' o k'' hD F''
theorem compE_t {α : Type} (ds : Nat → List α) (G : α → List Value → Prop) (VC : Value → List (Str × Option Value)) (R : Room kR A) (F : Fx w mg mb g env V M h) (src : Src prog w A g h (.Name x px) xv n P) (hn : n ≤ 1000)
    (hVC : ∀ v, ∀ p ∈ VC v, p = (x, some v) ∨ Cap env scope cl V p) (hd0 : ds 0 = []) (hdl : ∀ i, i ≤ n → (ds i).length ≤ 1000)
    (turn : ∀ C i v ys X h₃ tk₃, i < n → P i v → NewTs h G X (ds i) ys h₃ → Sub h h₃ → (∀ b ∈ X, (h₃.get? b).isSome = true) → Rd w mg mb h (compEnvC scope cl C env) (VC v) h₃ →
      wpAny (model prog w) A (tests ifs (compEnvC scope cl C env)) (Ways (fun s₂ => wpAny (model prog w) A (eval elt (compEnvC scope cl C env)) (fun y s₃ => PEnd s h₃ (NewTs h G X (ds (i + 1)) (ys ++ [y])) s₃) (fun _ _ => False) s₂) (PEnd s h₃ (NewTs h G X (ds (i + 1)) ys))) (fun _ _ => False) (upd s h₃ tk₃))
    (fin : ∀ D ys h' tk' g₂, NewTs h G [] (ds n) ys g₂ → Sub g g₂ → Sub h h' → h.get? D = none → Fx w mg mb g₂ env V ((D, LstP ys) :: M) h' → Q (.ref D) (upd s h' tk'))
    (hcell : ∀ y ∈ scope.names, y.2 ≠ .cell) (hkind : scope.kind = .function) (hx : scope.names.lookup x = some .local) :
    CompE prog w A E env elt (.Name x px) iter ifs scope cl pos Q xv (upd s h tk) :=
  comp_name (fun X i ys h' => NewTs h G X (ds i) ys h') VC R F src hn hcell hkind hx hVC (fun _ _ _ _ _ a b => a.but b) (fun _ _ _ => by rw [hd0]; exact .nil) (fun _ i ys _ a b => by rw [a.length]; exact hdl i b)
    (fun C D I i v ys h₃ tk₃ a b c d e1 e2 e3 f => turn C i v ys _ h₃ tk₃ a b c d (by simp [e1, e2, e3]) f)
    fun C D I ys h' tk' m' o k hC hD _ hne hns hp => compE_fin F k hC hD hne hns hp fun h'' tk'' k'' hs F'' =>
      fin D ys h'' tk'' _ ((o.but fun b o hb e => hs.extBut b o (fun e' => hb (by simp [e'])) e).froz F F'' (by simp)) F''.sub_frz k'' hD F''.freeze
theorem compE_tp {α : Type} (ds : Nat → List α) (G : α → List Value → Prop) (VC : Value → Value → List (Str × Option Value)) (PP : Nat → Value → Value → Prop) (R : Room kR A) (F : Fx w mg mb g env V M h) (src : Src prog w A g h (.Tuple [.Name x px, .Name y py] kk tp) xv n P) (hn : n ≤ 1000)
    (hPP : ∀ i v, P i v → ∃ T a b, v = .ref T ∧ IsT h T [a, b] ∧ PP i a b)
    (hVC : ∀ a b, ∀ p ∈ VC a b, p = (x, some a) ∨ p = (y, some b) ∨ Cap env scope cl V p) (hd0 : ds 0 = []) (hdl : ∀ i, i ≤ n → (ds i).length ≤ 1000)
    (turn : ∀ C i a b ys X h₃ tk₃, i < n → PP i a b → NewTs h G X (ds i) ys h₃ → Sub h h₃ → (∀ b ∈ X, (h₃.get? b).isSome = true) → Rd w mg mb h (compEnvC scope cl C env) (VC a b) h₃ →
      wpAny (model prog w) A (tests ifs (compEnvC scope cl C env)) (Ways (fun s₂ => wpAny (model prog w) A (eval elt (compEnvC scope cl C env)) (fun y s₃ => PEnd s h₃ (NewTs h G X (ds (i + 1)) (ys ++ [y])) s₃) (fun _ _ => False) s₂) (PEnd s h₃ (NewTs h G X (ds (i + 1)) ys))) (fun _ _ => False) (upd s h₃ tk₃))
    (fin : ∀ D ys h' tk' g₂, NewTs h G [] (ds n) ys g₂ → Sub g g₂ → Sub h h' → h.get? D = none → Fx w mg mb g₂ env V ((D, LstP ys) :: M) h' → Q (.ref D) (upd s h' tk'))
    (hcell : ∀ y ∈ scope.names, y.2 ≠ .cell) (hkind : scope.kind = .function) (hx : scope.names.lookup x = some .local) (hy : scope.names.lookup y = some .local) (hxy : x ≠ y) :
    CompE prog w A E env elt (.Tuple [.Name x px, .Name y py] kk tp) iter ifs scope cl pos Q xv (upd s h tk) :=
  comp_pair (fun X i ys h' => NewTs h G X (ds i) ys h') VC R F src hn hcell hkind hx hy hxy PP hPP hVC (fun _ _ _ _ _ a b => a.but b) (fun _ _ _ => by rw [hd0]; exact .nil) (fun _ i ys _ a b => by rw [a.length]; exact hdl i b)
    (fun C D I i a b ys h₃ tk₃ c d e f e1 e2 e3 r => turn C i a b ys _ h₃ tk₃ c d e f (by simp [e1, e2, e3]) r)
    fun C D I ys h' tk' m' o k hC hD _ hne hns hp => compE_fin F k hC hD hne hns hp fun h'' tk'' k'' hs F'' =>
      fin D ys h'' tk'' _ ((o.but fun b o hb e => hs.extBut b o (fun e' => hb (by simp [e'])) e).froz F F'' (by simp)) F''.sub_frz k'' hD F''.freeze

variable {z : Str} {pz : Pos} {rest : List Stmt} {QF : Flow → Shared → Prop}
theorem compA_s (O : Nat → List Value → Prop) (VC : Value → List (Str × Option Value)) (R : Room kR A) (F : Fx w mg mb g env V M h) (src : Src prog w A g h (.Name x px) xv n P) (hn : n ≤ 1000)
    (hVC : ∀ v, ∀ p ∈ VC v, p = (x, some v) ∨ Cap env scope cl V p) (hO0 : O 0 []) (hOl : ∀ i ys, O i ys → i ≤ n → ys.length ≤ 1000)
    (turn : ∀ C i v ys h₃ tk₃, i < n → P i v → O i ys → Sub h h₃ → Rd w mg mb h (compEnvC scope cl C env) (VC v) h₃ →
      wpAny (model prog w) A (tests ifs (compEnvC scope cl C env)) (Ways (fun s₂ => wpAny (model prog w) A (eval elt (compEnvC scope cl C env)) (fun y s₃ => PEnd s h₃ (fun _ => O (i + 1) (ys ++ [y])) s₃) (fun _ _ => False) s₂) (PEnd s h₃ (fun _ => O (i + 1) ys))) (fun _ _ => False) (upd s h₃ tk₃))
    (VD : Addr → List (Str × Option Value)) (hput : ∀ D, Put z (some (.ref D)) V (VD D))
    (fin : ∀ D ys h' tk', O n ys → h.get? D = none → Fx w mg mb g env (VD D) ((D, LstP ys) :: M) h' → wpAny (model prog w) A (execs rest env) QF E (upd s h' tk'))
    (hcell : ∀ y ∈ scope.names, y.2 ≠ .cell) (hkind : scope.kind = .function) (hx : scope.names.lookup x = some .local) :
    CompA prog w A E env elt (.Name x px) iter ifs scope cl pos z pz rest QF xv (upd s h tk) :=
  comp_name (fun _ i ys _ => O i ys) VC R F src hn hcell hkind hx hVC (fun _ _ _ _ _ a _ => a) (fun _ _ _ => hO0) (fun _ i ys _ a b => hOl i ys a b) (fun C D I i v ys h₃ tk₃ a b c d _ _ _ e => turn C i v ys h₃ tk₃ a b c d e)
    fun C D I ys h' tk' m' o k hC hD _ hne hns hp => compA_fin F (hput D) k hC hD hne hns hp fun h'' tk'' _ F'' => fin D ys h'' tk'' o hD F''
theorem compA_t {α : Type} (ds : Nat → List α) (G : α → List Value → Prop) (VC : Value → List (Str × Option Value)) (R : Room kR A) (F : Fx w mg mb g env V M h) (src : Src prog w A g h (.Name x px) xv n P) (hn : n ≤ 1000)
    (hVC : ∀ v, ∀ p ∈ VC v, p = (x, some v) ∨ Cap env scope cl V p) (hd0 : ds 0 = []) (hdl : ∀ i, i ≤ n → (ds i).length ≤ 1000)
    (turn : ∀ C i v ys X h₃ tk₃, i < n → P i v → NewTs h G X (ds i) ys h₃ → Sub h h₃ → (∀ b ∈ X, (h₃.get? b).isSome = true) → Rd w mg mb h (compEnvC scope cl C env) (VC v) h₃ →
      wpAny (model prog w) A (tests ifs (compEnvC scope cl C env)) (Ways (fun s₂ => wpAny (model prog w) A (eval elt (compEnvC scope cl C env)) (fun y s₃ => PEnd s h₃ (NewTs h G X (ds (i + 1)) (ys ++ [y])) s₃) (fun _ _ => False) s₂) (PEnd s h₃ (NewTs h G X (ds (i + 1)) ys))) (fun _ _ => False) (upd s h₃ tk₃))
    (VD : Addr → List (Str × Option Value)) (hput : ∀ D, Put z (some (.ref D)) V (VD D))
    (fin : ∀ D ys h' tk' g₂, NewTs h G [] (ds n) ys g₂ → Sub g g₂ → h.get? D = none → Fx w mg mb g₂ env (VD D) ((D, LstP ys) :: M) h' → wpAny (model prog w) A (execs rest env) QF E (upd s h' tk'))
    (hcell : ∀ y ∈ scope.names, y.2 ≠ .cell) (hkind : scope.kind = .function) (hx : scope.names.lookup x = some .local) :
    CompA prog w A E env elt (.Name x px) iter ifs scope cl pos z pz rest QF xv (upd s h tk) :=
  comp_name (fun X i ys h' => NewTs h G X (ds i) ys h') VC R F src hn hcell hkind hx hVC (fun _ _ _ _ _ a b => a.but b) (fun _ _ _ => by rw [hd0]; exact .nil) (fun _ i ys _ a b => by rw [a.length]; exact hdl i b)
    (fun C D I i v ys h₃ tk₃ a b c d e1 e2 e3 f => turn C i v ys _ h₃ tk₃ a b c d (by simp [e1, e2, e3]) f)
    fun C D I ys h' tk' m' o k hC hD _ hne hns hp => compA_fin F (hput D) k hC hD hne hns hp fun h'' tk'' kb F'' => by
      have hL : ∀ T, h.get? T = none → T ∉ env.locals :: (env.cells.map (·.2) ++ M.map (·.1)) := fun T e => F.new_out e
      refine fin D ys h'' tk'' _ (NewTs.froz (X := [C, D, I]) F F'' (by simp) (Paired.mono (fun _ _ ⟨T, us, a, b, c, ⟨o, ho, r⟩, e⟩ => ⟨T, us, a, b, c, ⟨o, kb T o ?_ ho, r⟩, e⟩) o)) F''.sub_frz hD F''.freeze
      have := hL T c
      simp only [List.mem_cons, List.mem_append, not_or] at this b ⊢
      exact ⟨this.1, b.1, this.2.1⟩
end
end
end Mine
end PComp3
section PSrt
open PySem PySem.W PyProof.Rows PySem.Calls
set_option Elab.async false
set_option linter.unusedVariables false
set_option maxRecDepth 100000
namespace Mine

noncomputable def kRun {α : Type} (ans : Nat → Nat → Bool) : KasT α → α
  | .ret a => a
  | .ask i j k => kRun ans (k (ans i j))
noncomputable def kIn {α : Type} (n : Nat) (ans : Nat → Nat → Bool) : KasT α → Bool
  | .ret _ => true
  | .ask i j k => decide (i < n) && decide (j < n) && kIn n ans (k (ans i j))
theorem kWp {α : Type} {n : Nat} {ans : Nat → Nat → Bool} {cmp : Nat → Nat → (Bool → Shared → Prop) → Shared → Prop} {Q : α → Shared → Prop} {s : Shared} (hc : ∀ i j C, i < n → j < n → C (ans i j) s → cmp i j C s) :
    ∀ t : KasT α, kIn n ans t = true → Q (kRun ans t) s → t.kasWp cmp Q s
  | .ret _, _, q => q
  | .ask i j k, hi, q => by
    simp only [kIn, Bool.and_eq_true, decide_eq_true_eq] at hi
    exact hc i j _ hi.1.1 hi.1.2 (kWp hc (k (ans i j)) hi.2 q)
theorem sort_up : ∀ n, n < 12 → kIn n (fun i j => decide (i < j)) (kas_sort n) = true ∧ (kRun (fun i j => decide (i < j)) (kas_sort n)).toList = List.range n := by decide +kernel
theorem sort_down : ∀ n, n < 12 → kIn n (fun i j => decide (j < i)) (kas_sort n) = true ∧ (kRun (fun i j => decide (j < i)) (kas_sort n)).toList = (List.range n).reverse := by decide +kernel

section
variable {prog : Program} {w : World} {A : Around} {E : Value → Shared → Prop} {s : Shared} {h : Heap} {tk n : Nat} {Q : Value → Shared → Prop}

theorem sorted_of {xv : Value} {vs : List Value} (hz : vs.length ≤ 1000)
    (hcol : ∀ Q' : List Value → Shared → Prop, (∀ h₁ tk₁, Sub h h₁ → Q' vs (upd s h₁ tk₁)) → wpAny (model prog w) A.in1 (PySem.collect xv) Q' E (upd s h tk))
    (hsort : ∀ a h₂ tk₂, Sub h h₂ → h.get? a = none → h₂.get? a = some (seqObj "list" vs.toArray 0) → wpAny (model prog w) A.in1.in1 (Builtin.«list.sort» ⟨[.ref a], []⟩) (fun fin s' => fin = .done (.ret .none) ∧ Q (.ref a) s') E (upd s h₂ tk₂)) :
    wpAny (model prog w) A (call (.builtin "sorted") [xv]) Q E (upd s h tk) := by
  refine Calls.call_function_entry kind_sorted plain_sorted entry_sorted (args_sorted1 _) ?_
  unfold Builtin.«sorted»
  refine wpAny_bind (m := checkCount "sorted" 1 1 _) (wpAny_pure ?_)
  refine wpAny_bind (hcol _ fun h₁ tk₁ k₁ => ?_)
  refine wpAny_bind (wpAny_newList (s := upd s h₁ tk₁) ?_ (by rw [sizeLine_eq]; omega))
  have hoL := Heap.get?_push_size h₁ (o := seqObj "list" vs.toArray 0) rfl
  have hn : h.get? h₁.objs.size = none := by
    cases e : h.get? h₁.objs.size with
    | none => rfl
    | some o => exact absurd (Heap.lt_size (k₁ _ _ e)) (Nat.lt_irrefl _)
  refine wpAny_bind (wpAny_holding (wpAny_call_entry slot_list_sort (s := upd s (h₁.push (seqObj "list" vs.toArray 0)) tk₁) ⟨_, hoL, rfl⟩ entry_list_sort ?_ (args_list_sort _)))
  exact wpAny_mono (hsort _ _ tk₁ (k₁.trans (Sub.push _ _)) hn hoL) (fun fin s' ⟨e, q⟩ => by subst e; exact ⟨_, rfl, wpAny_pure ⟨_, rfl, q⟩⟩) fun _ _ e => e

theorem sortedHeap_sub {h₀ h : Heap} {a : Addr} {vs : List Value} {out : Array Value} (k : Sub h₀ h) (ha : h₀.get? a = none) (hlt : a < h.objs.size) : Sub h₀ (sortedHeap h a vs out) := by
  intro b o e
  have hb : b ≠ a := fun e' => by rw [e', ha] at e; cases e
  unfold sortedHeap
  rw [Heap.get?_update_other _ _ (Ne.symm hb)]
  refine Heap.get?_push_of_some _ (Heap.get?_push_of_some _ ?_)
  rw [Heap.get?_update_other _ _ (Ne.symm hb)]
  exact k b o e
theorem sortedHeap_at {h : Heap} {a : Addr} {vs : List Value} {out : Array Value} {c : Nat} (ho : h.get? a = some (seqObj "list" vs.toArray c)) : ∃ c', (sortedHeap h a vs out).get? a = some (listOf out c') := by
  have e1 := get?_update_seq (c := "list") ho (fun _ => (#[] : Array Value))
  have e2 := Heap.get?_push_of_some (seqObj "list" #[] 0) (Heap.get?_push_of_some (seqObj "tuple" vs.toArray 0) e1)
  exact ⟨_, get?_update_seq (c := "list") e2 (fun _ => out)⟩

theorem sorted_ints {xv : Value} {vs : List Value} {ns : List Int} (hi : IntsAre vs ns) (h64 : vs.length < 64)
    (hcol : ∀ Q' : List Value → Shared → Prop, (∀ h₁ tk₁, Sub h h₁ → Q' vs (upd s h₁ tk₁)) → wpAny (model prog w) A.in1 (PySem.collect xv) Q' E (upd s h tk))
    (q : ∀ a h' tk' out ns' c, Sub h h' → h.get? a = none → h'.get? a = some (listOf (List.toArray out) c) → IntsAre out ns' → ns'.Perm ns → ns'.Pairwise (· ≤ ·) → Q (.ref a) (upd s h' tk')) :
    wpAny (model prog w) A (call (.builtin "sorted") [xv]) Q E (upd s h tk) := by
  refine sorted_of (by omega) hcol fun a h₂ tk₂ k₂ ha ho => ?_
  refine list_sort_tree (s := upd s h₂ tk₂) ho hi h64 fun out ns' hi' hp hs => ⟨rfl, ?_⟩
  obtain ⟨c', e'⟩ := sortedHeap_at (out := out) ho
  exact q a (sortedHeap h₂ a vs out) tk₂ out.toList ns' c' (sortedHeap_sub k₂ ha (Heap.lt_size ho)) ha (by simpa using e') hi' hp hs

noncomputable def PrG (d : Int × Int) (us : List Value) : Prop := ∃ t u, us = [.int d.1 t, .int d.2 u]

theorem sort_raw {a : Addr} {vs : List Value} {c : Nat} {P : PySem.Fin → Shared → Prop} (out : List Value) (ho : h.get? a = some (seqObj "list" vs.toArray c)) (h64 : vs.length < 64) (hout : out.length ≤ 1000) (h1 : vs.length < 2 → out = vs)
    (h2 : 2 ≤ vs.length → ∀ h₂, (∀ b o, b ≠ a → h.get? b = some o → h₂.get? b = some o) → wpAny (model prog w) A (keyKind' vs.toArray) (fun κ s' => s' = upd s h₂ tk ∧ (kas_sort vs.length).kasWp (kas_ask prog w A κ vs) (fun p s'' => s'' = upd s h₂ tk ∧ p.toList.map (fun i => vs.getD i Value.none) = out) s') (fun _ _ => False) (upd s h₂ tk))
    (q : P (.done (.ret .none)) (upd s (sortedHeap h a vs out.toArray) tk)) : wpAny (model prog w) A (Builtin.«list.sort» ⟨[.ref a], []⟩) P E (upd s h tk) := by
  rw [list_sort_plain]
  have ha : a < h.objs.size := Heap.lt_size ho
  refine wpAny_bind (listItems_at (s := upd s h tk) ho rfl ?_)
  refine wpAny_bind (listUpdate_at (s := upd s h tk) ho rfl ?_ (by rw [List.size_toArray, sizeLine_eq]; omega) (by simp))
  obtain ⟨e1, ho1⟩ : ∃ e1, (h.update a (Obj.mapSeq fun _ => #[])).get? a = some (seqObj "list" #[] e1) := ⟨_, get?_update_seq ho (fun _ => #[])⟩
  refine wpAny_bind (seqEpoch_at ho1 rfl ?_)
  refine wpAny_bind (wpAny_newTuple ?_ (by simp [sizeLine_eq]; omega))
  refine wpAny_bind (wpAny_newList ?_)
  refine wpAny_holding ?_
  have ho6 : (((h.update a (Obj.mapSeq fun _ => #[])).push (seqObj "tuple" vs.toArray 0)).push (seqObj "list" #[] 0)).get? a = some (seqObj "list" #[] e1) :=
    Heap.get?_push_of_some _ (Heap.get?_push_of_some _ ho1)
  show wpAny (model prog w) A _ P E (upd s (((h.update a (Obj.mapSeq fun _ => #[])).push (seqObj "tuple" vs.toArray 0)).push (seqObj "list" #[] 0)) tk)
  dsimp only
  have hsz : vs.toArray.size = vs.length := by simp
  by_cases hl : vs.length < 2
  · rw [hsz, if_pos hl, if_pos hl]
    refine wpAny_bind (wpAny_pure ?_)
    rw [StateT.run_pure]
    refine wpAny_bind (wpAny_pure ?_)
    dsimp only
    refine wpAny_bind (seqEpoch_at ho6 rfl ?_)
    have e : (arrOf (SortSt.mk' general' (vs.toArray.zip vs.toArray) #[] 7 none)).map (·.2) = out.toArray := by
      rw [h1 hl]
      show (vs.toArray.zip vs.toArray).map (·.2) = vs.toArray
      apply Array.toList_inj.mp
      simp [List.map_snd_zip]
    rw [e]
    refine wpAny_bind (listUpdate_at ho6 rfl ?_ (by simp) (by rw [h1 hl, List.size_toArray, sizeLine_eq]; omega))
    simp only [bne_self_eq_false, Bool.false_eq_true, if_false]
    exact wpAny_pure q
  · rw [hsz, if_neg hl, if_neg hl]
    have hl2 : 2 ≤ vs.length := by omega
    refine wpAny_bind (wpAny_mono (h2 hl2 _ fun b o hb e => Heap.get?_push_of_some _ (Heap.get?_push_of_some _ ((Heap.get?_update_other _ _ (Ne.symm hb)).trans e))) (fun κ s' hk => ?_) fun _ _ x => x.elim)
    obtain ⟨rfl, hk⟩ := hk
    refine wpAny_bind (wpAny_mono (kat_run (ks := vs) (vs := vs) (Q := fun st' s'' => s'' = upd s (((h.update a (Obj.mapSeq fun _ => #[])).push (seqObj "tuple" vs.toArray 0)).push (seqObj "list" #[] 0)) tk ∧ (arrOf st').map (·.2) = out.toArray ∧ failedOf st' = none) rfl hl2 h64 (fun p st' s'' _ har hf hG => ⟨hG.1, by rw [kat_snds rfl har, hG.2], hf⟩) hk) ?_ fun _ _ e => e)
    rintro ⟨⟨⟩, st'⟩ s' ⟨rfl, hp, hf⟩
    dsimp only
    refine wpAny_bind (seqEpoch_at ho6 rfl ?_)
    rw [hp]
    refine wpAny_bind (listUpdate_at ho6 rfl ?_ (by simp) (by rw [List.size_toArray, sizeLine_eq]; omega))
    rw [hf]
    simp only [bne_self_eq_false, Bool.false_eq_true, if_false]
    exact wpAny_pure q

theorem katTups_of {h : Heap} {ds : List (Int × Int)} {vs : List Value} (x : Tups PrG ds vs h) : ∃ fs : List Value, fs.length = vs.length ∧ KatTups h vs fs ∧ ∀ v ∈ fs, ∃ a t, v = .int a t := by
  induction x with
  | nil => exact ⟨[], rfl, .nil, by simp⟩
  | cons a _ ih =>
    obtain ⟨T, us, rfl, ⟨o, ho, hc, n, hd⟩, t, u, rfl⟩ := a
    obtain ⟨fs, e, k, x⟩ := ih
    exact ⟨_ :: fs, by simp [e], .cons ho hc hd rfl k, by intro v hv; rcases List.mem_cons.mp hv with rfl | hv; exact ⟨_, _, rfl⟩; exact x v hv⟩
theorem rev_short (vs : List Value) (h : vs.length < 2) : vs.reverse = vs := by
  cases vs with
  | nil => rfl
  | cons a t =>
    cases t with
    | nil => rfl
    | cons b t => exact absurd h (Nat.not_lt.mpr (Nat.le_add_left 2 _))
theorem Tups.getD {G : Int × Int → List Value → Prop} {h : Heap} {ds : List (Int × Int)} {vs : List Value} (x : Tups G ds vs h) : ∀ i, i < vs.length → ∃ T us, vs.getD i Value.none = .ref T ∧ IsT h T us ∧ G (ds.getD i (0, 0)) us := by
  induction x with
  | nil => intro i hi; exact absurd hi (by simp)
  | cons a _ ih =>
    intro i hi
    cases i with
    | zero => exact a
    | succ i => simpa using ih i (by simpa using hi)
theorem getD_map (vs : List Value) : (List.range vs.length).map (fun i => vs.getD i Value.none) = vs := by
  apply List.ext_getElem?
  intro i
  by_cases h : i < vs.length
  · simp [h]
  · simp [h]
theorem dir_key {ds : List (Int × Int)} {up : Bool} (hd : ds.Pairwise fun a b => if up then a.1 < b.1 else b.1 < a.1) {i j : Nat} (hi : i < ds.length) (hj : j < ds.length) :
    (if up then decide (i < j) else decide (j < i)) = decide ((ds.getD i (0, 0)).1 < (ds.getD j (0, 0)).1) ∧ ((ds.getD i (0, 0)).1 = (ds.getD j (0, 0)).1 → i = j) := by
  have hP := List.pairwise_iff_getElem.mp hd
  have e : ∀ i (hi : i < ds.length), ds.getD i (0, 0) = ds[i] := fun i hi => by simp [hi]
  rw [e i hi, e j hj]
  have a1 := hP i j hi hj
  have a2 := hP j i hj hi
  clear hP hd e
  rcases Nat.lt_trichotomy i j with h | rfl | h
  · have a1 := a1 h
    cases up
    · simp only [Bool.false_eq_true, if_false] at a1 ⊢
      exact ⟨decide_eq_decide.mpr ⟨fun _ => by omega, fun _ => by omega⟩, fun e => by omega⟩
    · simp only [if_true] at a1 ⊢
      exact ⟨decide_eq_decide.mpr ⟨fun _ => by omega, fun _ => by omega⟩, fun e => by omega⟩
  · simp
  · have a2 := a2 h
    cases up
    · simp only [Bool.false_eq_true, if_false] at a2 ⊢
      exact ⟨decide_eq_decide.mpr ⟨fun _ => by omega, fun _ => by omega⟩, fun e => by omega⟩
    · simp only [if_true] at a2 ⊢
      exact ⟨decide_eq_decide.mpr ⟨fun _ => by omega, fun _ => by omega⟩, fun e => by omega⟩

theorem b_sortp {l : Addr} {vs : List Value} {ds : List (Int × Int)} (up : Bool) (hl : IsL h l vs) (ht : Tups PrG ds vs h) (h12 : ds.length < 12) (hd : ds.Pairwise fun a b => if up then a.1 < b.1 else b.1 < a.1)
    (q : ∀ a h' tk' c, Sub h h' → h.get? a = none → h'.get? a = some (listOf (List.toArray (if up then vs else vs.reverse)) c) → Q (.ref a) (upd s h' tk')) :
    wpAny (model prog w) A (call (.builtin "sorted") [.ref l]) Q E (upd s h tk) := by
  have hlen : ds.length = vs.length := Paired.length ht
  have hol : (if up then vs else vs.reverse).length = vs.length := by cases up <;> simp
  refine sorted_of (vs := vs) (by omega) (fun Q' hq => collect_list (s := upd s h tk) hl (hq _ tk ?_) (by rw [sizeLine_eq]; omega)) fun a h₂ tk₂ k₂ ha ho => ?_
  · intro b o e
    rw [Heap.get?_update_other _ _ (by intro e'; rw [← e'] at e; exact Nat.lt_irrefl _ (Heap.lt_size e))]
    exact Heap.get?_push_of_some _ e
  obtain ⟨c', e'⟩ := sortedHeap_at (out := (if up then vs else vs.reverse).toArray) ho
  refine sort_raw (if up then vs else vs.reverse) ho (by omega) (by omega) (fun h2 => ?h1) (fun h2 h₃ k₃ => ?h2) ⟨rfl, q a _ tk₂ c' (sortedHeap_sub k₂ ha (Heap.lt_size ho)) ha e'⟩
  case h1 =>
    cases up
    · exact rev_short _ h2
    · rfl
  case h2 =>
    have hsub : Sub h h₃ := fun b o e => k₃ b o (by rintro rfl; rw [ha] at e; cases e) (k₂ b o e)
    have ht₃ := ht.up hsub
    obtain ⟨fs, hfl, hkt, hfi⟩ := katTups_of ht₃
    refine kat_kind (s := upd s h₃ tk₂) (T := .type "int") hkt (by omega) (fun v hv => ?_) rfl ⟨rfl, ?_⟩
    · obtain ⟨a, t, rfl⟩ := hfi v hv; exact .now
    refine kWp (n := vs.length) (ans := fun i j => if up then decide (i < j) else decide (j < i)) (fun i j C hi hj hC => ?_) _ ?_ ⟨rfl, ?_⟩
    · obtain ⟨k1, k2⟩ := dir_key hd (i := i) (j := j) (by omega) (by omega)
      rw [k1] at hC
      obtain ⟨T, us, e1, ⟨o1, ho1, _, n1, hd1⟩, t1, u1, rfl⟩ := ht₃.getD i hi
      obtain ⟨T', us', e2, ⟨o2, ho2, _, n2, hd2⟩, t2, u2, rfl⟩ := ht₃.getD j hj
      unfold kas_ask
      rw [e1, e2]
      refine kat_lt (s := upd s h₃ tk₂) ho1 hd1 ho2 hd2 (kat_cons (wpAny_eqBool_int (kat_go (fun he => ?_) fun he => kat_no (oneLt_int hC))))
      obtain rfl := k2 (beq_iff_eq.mp he)
      refine kat_yes (kat_cons (wpAny_eqBool_int ?_))
      simp only [beq_self_eq_true]
      refine kat_yes (kat_nil ?_)
      simpa using hC
    · cases up
      · exact (sort_down _ (by omega)).1
      · exact (sort_up _ (by omega)).1
    · cases up
      · have e := (sort_down vs.length (by omega)).2
        simp only [Bool.false_eq_true, if_false] at e ⊢
        rw [e, List.map_reverse, getD_map]
      · have e := (sort_up vs.length (by omega)).2
        simp only [if_true] at e ⊢
        rw [e, getD_map]
end
end Mine
end PSrt
section PSrcs
open PySem PySem.W PyProof.Rows PySem.Calls
set_option Elab.async false
set_option linter.unusedVariables false
set_option maxRecDepth 100000
namespace Mine
section
variable {w : World} {mg mb : Str → Option Value} {g h : Heap} {env : Env} {V V' : List (Str × Option Value)} {M M' : List (Addr × (Obj → Prop))}
variable {prog : Program} {A : Around} {E : Value → Shared → Prop} {s : Shared} {tk : Nat}

theorem Fx.fresh {a : Addr} {P : Obj → Prop} (F : Fx w mg mb g env V M h) (hm : At a P M) : g.get? a = none :=
  F.gn a (List.mem_cons_of_mem _ (List.mem_append.mpr (.inr (List.mem_map.mpr ⟨_, hm.mem, rfl⟩))))
theorem b_addl {l b : Addr} {vs us : List Value} {Q : Value → Shared → Prop} (F : Fx w mg mb g env V M h) (hl : Mine.IsL h l vs) (hb : Mine.IsL h b us) (hz : vs.length + us.length ≤ sizeLine)
    (q : ∀ a h', Fx w mg mb g env V ((a, LstP (vs ++ us)) :: M) h' → Sub h h' → Q (.ref a) (upd s h' tk)) : wpAny (model prog w) A (binaryOp .Add (.ref l) (.ref b)) Q E (upd s h tk) := by
  have F' := F.alloc (P := LstP (vs ++ us)) { cls := .type "list", data := .seq (vs.toArray ++ us.toArray) } ⟨0, by simp⟩
  obtain ⟨⟨cls, dd, data, sl⟩, ho, hc, n, hd⟩ := id hl
  obtain ⟨⟨cls2, dd2, data2, sl2⟩, ho2, hc2, n2, hd2⟩ := id hb
  simp only at hc hd hc2 hd2
  subst hc hd hc2 hd2
  exact concat_meets (s := upd s h tk) ⟨_, ho, rfl⟩ ⟨_, ho2, rfl⟩ noFill_list_add seq_list_add PySem.F.slot_list_add PySem.F.entry_list_add (PySem.F.args_list_add_2 _ _) (list_addW l b vs.toArray us.toArray n n2 dd dd2 sl sl2 (by simpa using hz)) ⟨ho, ho2, q _ _ F' (Sub.push _ _)⟩
theorem b_max2F {a b : Int} {t u : Tok} {Q : Value → Shared → Prop} {n : Nat} (R : Room n A) (F : Fx w mg mb g env V M h) (q : ∀ h' t tk', Sub h h' → Fx w mg mb g env V M h' → Q (.int (max a b) t) (upd s h' tk')) : wpAny (model prog w) A (call (.builtin "max") [.int a t, .int b u]) Q E (upd s h tk) :=
  b_max2 R fun h' t tk' k => q h' t tk' k (F.ext k)
theorem b_min2F {a b : Int} {t u : Tok} {Q : Value → Shared → Prop} {n : Nat} (R : Room n A) (F : Fx w mg mb g env V M h) (q : ∀ h' t tk', Sub h h' → Fx w mg mb g env V M h' → Q (.int (min a b) t) (upd s h' tk')) : wpAny (model prog w) A (call (.builtin "min") [.int a t, .int b u]) Q E (upd s h tk) :=
  b_min2 R fun h' t tk' k => q h' t tk' k (F.ext k)
theorem i_neg {a : Int} {t : Tok} {Q : Value → Shared → Prop} (q : ∀ t tk', Q (.int (-a) t) (upd s h tk')) : wpAny (model prog w) A (unaryOp .USub (.int a t)) Q E (upd s h tk) := PyProof.Rows.neg_int (q _ _)
theorem go_int {I : Addr} {i : Int} {t : Tok} {target : Expr} {s' : Shared} {Q : Unit → Shared → Prop} (q : Q () s') : wpAny (model prog w) A (letOwnedTupleGo target (.ref I) (.int i t)) Q E s' := by
  unfold letOwnedTupleGo
  cases target <;> exact wpAny_pure q
theorem src_of {xv : Value} {n : Nat} {P : Nat → Value → Prop} {target : Expr} {cls : Addr → Obj} {l : Addr} {fp : List Addr} {St : Addr → Nat → Heap → Prop} (o : Obj) (hf : o.isFreed = false)
    (hfp : ∀ b ∈ fp, (g.get? b).isSome = true) (k : Sub g h)
    (hiter : ∀ (s : Shared) (tk : Nat) (Q : Value → Shared → Prop) (E : Value → Shared → Prop), Q (.ref h.objs.size) (upd s (h.push o) tk) → wpAny (model prog w) A (pyIter xv) Q E (upd s h tk))
    (W : Walks prog w A h.objs.size (h.objs.size :: fp) [h.objs.size] n P (St h.objs.size)) (hst : St h.objs.size 0 (h.push o))
    (hlive : ∀ i h', St h.objs.size i h' → (h'.get? h.objs.size).isSome = true)
    (hgo : ∀ i (s' : Shared) v (Q' : Unit → Shared → Prop) (E' : Value → Shared → Prop), St h.objs.size (i + 1) s'.heap → P i v → Q' () s' → wpAny (model prog w) A (letOwnedTupleGo target (.ref h.objs.size) v) Q' E' s') :
    Src prog w A g h target xv n P := by
  intro s tk Q E q
  refine hiter s tk Q E (q h.objs.size (h.objs.size :: fp) [h.objs.size] (St h.objs.size) (h.push o) tk W hst (Sub.push _ _) (fresh_size h) ?_ hlive (by intro b hb; simpa using hb) hgo)
  intro b hb
  rcases List.mem_cons.mp hb with rfl | hb
  · exact .inl rfl
  · exact .inr (hfp b hb)
theorem src_t {l : Addr} {vs : List Value} {target : Expr} (hh : A.handled = none) (hg : IsT g l vs) (k : Sub g h) : Src prog w A g h target (.ref l) vs.length (fun i v => vs[i]? = some v) := by
  have hl : IsT h l vs := hg.up k
  obtain ⟨ol, hol, _⟩ := id hl
  obtain ⟨og, hog, _⟩ := id hg
  have hlt : l < h.objs.size := Heap.lt_size hol
  have W := Walks.tuple (prog := prog) (w := w) hh h.objs.size l (Nat.ne_of_lt hlt) vs.toArray
  refine src_of (cls := fun _ => ol) (l := l) (fp := [l]) (St := fun I i h => h.IsTupleIter I l i ∧ h.IsTuple l vs.toArray) { cls := .type "tuple_iterator", data := .fields #[.ref l, .int 0 0] } rfl (by simp [hog]) k
    (fun s tk Q E q => wpAny_pyIter_tuple (s := upd s h tk) hl q) (by simpa using W) ⟨⟨_, Heap.get?_push_size _ rfl, rfl, rfl⟩, hl.up (Sub.push _ _)⟩ ?_ ?_
  · rintro i h' ⟨⟨o, ho, _⟩, _⟩; rw [ho]; rfl
  · intro i s' v Q' E' hst _ q'
    exact letGo_tupleiter hst.1 q'
theorem src_r {r : Addr} {n : Nat} {target : Expr} {t u v : Tok} (hh : A.handled = none) (hr : IsRange h r 0 n 1 t u v) (hn : n < 1000) (k : Sub g h) : Src prog w A g h target (.ref r) n (fun i v => ∃ t, v = .int (i : Int) t) := by
  have W := LCg.range_walks (prog := prog) (w := w) hh (I := h.objs.size) 0 n
  have e : Builtin.Range.rangeSize 0 n 1 = n := by rw [rangeSize_one]; split <;> omega
  refine src_of (cls := fun _ => default) (l := r) (fp := []) (St := fun I i h => IsRangeIter h I (0 + (i : Nat) * 1) ((n : Int) - (i : Nat)) 1) { cls := .type "range_iterator", data := .fields #[rawInt 0, rawInt n, rawInt 1] } rfl (by simp) k
    (fun s tk Q E q => wpAny_pyIter_range (s := upd s h tk) hr ?_ (by rw [e]; exact q)) (by simpa using W) ?_ ?_ ?_
  · have : ((n : Int) < 2 ^ 62) := by omega
    simp [Builtin.Range.small, e, Builtin.Range.rangeFitsLong]; omega
  · have := Heap.get?_push_size h (o := { cls := .type "range_iterator", data := .fields #[rawInt 0, rawInt n, rawInt 1] }) rfl
    show (h.push _).get? _ = _
    rw [this]; simp
  · intro i h' e; rw [show h'.get? _ = _ from e]; rfl
  · rintro i s' v Q' E' _ ⟨t, rfl⟩ q'
    exact go_int q'
theorem src_d {d : Addr} {kvs : List (Int × Value)} {ep : Nat} {target : Expr} (hh : A.handled = none) (hd : (d == sysModules) = false) (hg : g.DictAt (intKind prog w) d kvs ep) (k : Sub g h) :
    Src prog w A g h target (.ref d) kvs.length (fun i v => ∃ n x t, kvs[i]? = some (n, x) ∧ v = .int n t) := by
  have hl : h.DictAt (intKind prog w) d kvs ep := hg.keep k
  have hlt := hl.lt_size
  obtain ⟨og, _, hog, _⟩ := id hg
  have W := Walks.dictKeys (prog := prog) (w := w) (knd := intKind prog w) hh h.objs.size d (Nat.ne_of_lt hlt) kvs ep
  refine src_of (cls := fun _ => default) (l := d) (fp := [d]) (St := fun I i h => h.IsKeyIter I d i kvs.length ep ∧ h.DictAt (intKind prog w) d kvs ep) { cls := .type "dict_keyiterator", data := .fields #[.ref d, .int 0 0, .int kvs.length 0, .int ep 0] } rfl (by simp [hog]) k
    (fun s tk Q E q => wpAny_pyIter_dict (s := upd s h tk) hd hl q) ?_ ⟨⟨_, Heap.get?_push_size _ rfl, rfl, rfl⟩, hl.push _⟩ ?_ ?_
  · exact { sub := W.sub, frame := W.frame, done := W.done, self := W.self, item := fun i s Q E hi st hQ => W.item i s Q E hi st fun v h' tk ⟨k, x, a, b⟩ => hQ v h' tk (let ⟨t, e⟩ := Value.isInt_shape b; ⟨k, x, t, a, e⟩) }
  · rintro i h' ⟨⟨o, ho, _⟩, _⟩; rw [ho]; rfl
  · rintro i s' v Q' E' _ ⟨n, x, t, _, rfl⟩ q'
    exact go_int q'
end
end Mine
end PSrcs
section PObj
open PySem PySem.W PyProof.Rows PySem.Calls
set_option Elab.async false
set_option linter.unusedVariables false
set_option linter.unusedSimpArgs false
set_option maxRecDepth 100000
namespace Mine

noncomputable def ObjP (k : Nat) (f : Str → Option Value) : Obj → Prop := fun o => ∃ es n, o = dictOf es n ∧ es.length = k ∧ (∀ e ∈ es, e.refKey = false) ∧ ∀ x, (es.find? (·.key.isStr x)).map (·.val) = f x
noncomputable def fset (f : Str → Option Value) (x : Str) (v : Value) : Str → Option Value := fun y => if y = x then some v else f y
theorem fset_same {f : Str → Option Value} {x : Str} {v : Value} : fset f x v x = some v := if_pos rfl
theorem fset_other {f : Str → Option Value} {x y : Str} {v : Value} (h : y ≠ x) : fset f x v y = f y := if_neg h

theorem isStr_iff {v : Value} {x : Str} : v.isStr x = true ↔ ∃ t, v = .str x t := by
  cases v <;> simp [Value.isStr]
theorem getL_of {x : Str} {es : List DictEntry} {r : Option Value} (hr : ∀ e ∈ es, e.refKey = false) (h : (es.find? (·.key.isStr x)).map (·.val) = r) : getL x es = some r := by
  unfold getL
  cases e : es.find? (·.key.isStr x) with
  | some y => rw [e] at h; rw [← h]; rfl
  | none =>
    rw [e] at h
    have : es.any (·.refKey) = false := by rw [List.any_eq_false]; intro a ha; rw [hr a ha]; simp
    rw [this, ← h]; rfl
theorem putL_find' {x : Str} {hsh : Int} {t : Tok} {v : Value} {y : Str} : ∀ es : List DictEntry, ((putL x hsh (.str x t) v es).find? (·.key.isStr y)).map (·.val) = if y = x then some v else (es.find? (·.key.isStr y)).map (·.val)
  | [] => by
    by_cases e : y = x
    · subst e; simp [putL, List.find?_cons, Value.isStr]
    · simp [putL, List.find?_cons, Value.isStr, e, Ne.symm e]
  | e :: r => by
    have ih := putL_find' (x := x) (hsh := hsh) (t := t) (v := v) (y := y) r
    unfold putL
    cases q : e.key.isStr x with
    | true =>
      obtain ⟨t', e'⟩ := isStr_iff.mp q
      by_cases h : y = x
      · subst h; simp [List.find?_cons, q]
      · simp only [if_true, List.find?_cons]
        have : e.key.isStr y = false := by rw [e']; simp [Value.isStr, Ne.symm h]
        simp [this, h]
    | false =>
      simp only [Bool.false_eq_true, if_false, List.find?_cons]
      cases q' : e.key.isStr y with
      | true =>
        have : y ≠ x := by rintro rfl; rw [q] at q'; cases q'
        simp [this]
      | false => exact ih
theorem putL_ref {x : Str} {hsh : Int} {t : Tok} {v : Value} : ∀ es : List DictEntry, (∀ e ∈ es, e.refKey = false) → ∀ e ∈ putL x hsh (.str x t) v es, e.refKey = false
  | [], _ => by intro e he; simp only [putL, List.mem_singleton] at he; subst he; rfl
  | e :: r, h => by
    unfold putL
    cases q : e.key.isStr x with
    | true =>
      intro a ha
      simp only [if_true] at ha
      rcases List.mem_cons.mp ha with rfl | ha
      · exact h e (.head _)
      · exact h a (List.mem_cons_of_mem _ ha)
    | false =>
      intro a ha
      simp only [Bool.false_eq_true, if_false] at ha
      rcases List.mem_cons.mp ha with rfl | ha
      · exact h a (.head _)
      · exact putL_ref r (fun a ha => h a (List.mem_cons_of_mem _ ha)) a ha
theorem putL_len_old {x : Str} {hsh : Int} {t : Tok} {v : Value} : ∀ es : List DictEntry, ((es.find? (·.key.isStr x)).map (·.val)).isSome = true → (putL x hsh (.str x t) v es).length = es.length
  | [], h => by simp at h
  | e :: r, h => by
    unfold putL
    cases q : e.key.isStr x with
    | true => simp
    | false =>
      simp only [Bool.false_eq_true, if_false, List.length_cons]
      rw [putL_len_old r (by simpa [List.find?_cons, q] using h)]
theorem putL_len_new {x : Str} {hsh : Int} {t : Tok} {v : Value} : ∀ es : List DictEntry, (es.find? (·.key.isStr x)).map (·.val) = none → (putL x hsh (.str x t) v es).length = es.length + 1
  | [], h => by simp [putL]
  | e :: r, h => by
    unfold putL
    cases q : e.key.isStr x with
    | true => simp [List.find?_cons, q] at h
    | false =>
      simp only [Bool.false_eq_true, if_false, List.length_cons]
      rw [putL_len_new r (by simpa [List.find?_cons, q] using h)]
theorem ObjP.put_old {k : Nat} {f : Str → Option Value} {es : List DictEntry} {n : Nat} {x : Str} {hsh : Int} {t : Tok} {v : Value} (P : ObjP k f (dictOf es n)) (hx : (f x).isSome = true) : ObjP k (fset f x v) (dictOf (putL x hsh (.str x t) v es) (putN x es n)) := by
  obtain ⟨es', n', e, h1, h2, h3⟩ := P
  have : es = es' := by injection e with _ _ e; injection e with e; simpa using e
  subst this
  exact ⟨_, _, rfl, by rw [putL_len_old _ (by rw [h3]; exact hx), h1], putL_ref _ h2, fun y => by rw [putL_find']; unfold fset; split <;> simp_all⟩
theorem ObjP.put_new {k : Nat} {f : Str → Option Value} {es : List DictEntry} {n : Nat} {x : Str} {hsh : Int} {t : Tok} {v : Value} (P : ObjP k f (dictOf es n)) (hx : f x = none) : ObjP (k + 1) (fset f x v) (dictOf (putL x hsh (.str x t) v es) (putN x es n)) := by
  obtain ⟨es', n', e, h1, h2, h3⟩ := P
  have : es = es' := by injection e with _ _ e; injection e with e; simpa using e
  subst this
  exact ⟨_, _, rfl, by rw [putL_len_new _ (by rw [h3]; exact hx), h1], putL_ref _ h2, fun y => by rw [putL_find']; unfold fset; split <;> simp_all⟩
theorem ObjP.empty {n : Nat} : ObjP 0 (fun _ => none) (dictOf [] n) := ⟨[], n, rfl, rfl, by simp, by simp⟩

structure AttrOk (w : World) (C : Addr) (x : Str) : Prop where
  g : plainGet (hd.heap_1 w.params) C x = true
  d : hasDictIn (hd.heap_1 w.params) C = true
  a : findIn (hd.heap_1 w.params) (.ref C) x = some none
  s : findIn (hd.heap_1 w.params) (.ref C) "__setattr__" = some (some (.builtin "object.__setattr__"))
  p : plainOver (hd.heap_1 w.params) C = true

section
variable {w : World} {mg mb : Str → Option Value} {g h : Heap} {env : Env} {V V' : List (Str × Option Value)} {M M' : List (Addr × (Obj → Prop))}
variable {prog : Program} {A : Around} {E : Value → Shared → Prop} {s : Shared} {tk k : Nat} {C x dx : Addr} {f : Str → Option Value} {name : Str} {v : Value}

theorem osa_raw {R : Result → Shared → Prop} {es : List DictEntry} {n : Nat} {t : Tok} (X : (hd.heap_1 w.params).In h) (I : InstAt h x (instObj C dx) C (some (dictOf es n))) (ok : AttrOk w C name)
    (hl : (getL name es).isSome = true) (hz : (putL name (PyData.keyHash w.params name) (.str name tk) v es).length ≤ 1000)
    (q : ∀ h', Heap.SameBut dx h h' → h'.get? dx = some (dictOf (putL name (PyData.keyHash w.params name) (.str name tk) v es) (putN name es n)) → R (.ok (.ret .none)) (upd s h' (tk + 1))) :
    codeAny (model prog w) A (.call (.builtin "object.__setattr__") ⟨[.ref x, .str name t, v], []⟩) R (upd s h tk) := by
  refine osa_open (s := upd s h tk) X I ok.p (r := none) (by unfold takerIn; rw [ok.a]; rfl) fun b => ?_
  obtain ⟨cd, hc, hd'⟩ := any_some ok.d
  have D : h.get? dx = some (dictOf es n) := I.dict
  have D' : (h.update dx (Obj.putName name (PyData.keyHash w.params name) (.str name tk) v)).get? dx = some (dictOf (putL name (PyData.keyHash w.params name) (.str name tk) v es) (putN name es n)) := by
    rw [← putName_dict]
    exact Heap.get?_update_self _ D (by rw [putName_dict]; rfl)
  obtain ⟨hx, hcl, hn, -⟩ := I
  refine wpAny_bind (wpAny_pure (wpAny_bind (wpAny_bind (wpAny_loadPart hx (wpAny_bind ((looks_clsIn X hc).here ?_))))))
  rw [hd']
  refine wpAny_pure (a := some dx) (wpAny_bind (wpAny_pure (wpAny_bind ?_)))
  unfold nsSet
  refine wpAny_bind (wpAny_bind (wpAny_askSetting (wpAny_pure (wpAny_bind (wpAny_mkText (wpAny_bind (wpAny_loadPart D ?_)))))))
  have c : (!es.toArray.any (·.key.isStr name) && es.toArray.any (·.refKey)) = false := by
    unfold getL at hl
    rw [← Array.any_toList, ← Array.any_toList]
    split at hl
    · rename_i en he
      rw [List.any_eq_true.mpr ⟨en, List.mem_of_find?_eq_some he, List.find?_some he⟩]; rfl
    · split at hl
      · cases hl
      · rename_i z; rw [Bool.not_eq_true] at z; rw [z, Bool.and_false]
  dsimp only
  rw [aRefKeyMayBeTheName_at, c]
  refine wpAny_updatePart D ?_
  refine wpAny_bind (wpAny_lookBehind D' (pastItsLine_dict (by rw [List.size_toArray, sizeLine_eq]; omega)) ?_)
  exact wpAny_pure (q _ (Heap.SameBut.update ..) D')

theorem e_attr {value : Expr} {attr : Str} {pos : Pos} {Q : Value → Shared → Prop} {s' : Shared} (q : wpAny (model prog w) A (eval value env) (fun o s₁ => wpAny (model prog w) A (getAttr o attr true) Q E s₁) E s')
    (he : eval (.Attribute value attr pos) env = (do let o ← eval value env; standAt pos.atName; let r ← holding [o] (getAttr o attr true); letTemporaryGo value o r; pure r)) : wpAny (model prog w) A (eval (.Attribute value attr pos) env) Q E s' := Attribute_any_ q he
theorem g_attr {ex : Bool} {Q : Value → Shared → Prop} (F : Rd w mg mb g env V h) (hx : h.get? x = some (instObj C dx)) (hm : ∃ o, h.get? dx = some o ∧ ObjP k f o) (ok : AttrOk w C name) (hf : f name = some v) (hv : handedIn v = true) (q : ∀ tk', Q v (upd s h tk')) : wpAny (model prog w) A (getAttr (.ref x) name ex) Q E (upd s h tk) := by
  obtain ⟨o, ho, es, n, rfl, _, hr, hl⟩ := hm
  have I : InstAt h x (instObj C dx) C (some (dictOf es n)) := ⟨hx, rfl, rfl, ho⟩
  exact get_value (s := upd s h tk) F.wdh.K I (plainGet_of ok.g).1 (findObj_own ok.d ok.a rfl (by rw [lookIn_dict]; exact getL_of hr (by rw [hl, hf]))) hv (q _)
theorem s_attr {Q : Unit → Shared → Prop} (F : Fx w mg mb g env V M h) (hx : h.get? x = some (instObj C dx)) (hm : At dx (ObjP k f) M) (hp : Put dx (ObjP k (fset f name v)) M M') (ok : AttrOk w C name) {u : Value} (hf : f name = some u) (hk : k ≤ 900)
    (q : ∀ h' tk', Fx w mg mb g env V M' h' → Q () (upd s h' tk')) : wpAny (model prog w) A (setAttr (.ref x) name v) Q E (upd s h tk) := by
  obtain ⟨o, ho, P⟩ := F.own _ hm.mem
  obtain ⟨es, n, rfl, h1, h2, h3⟩ := id P
  have I : InstAt h x (instObj C dx) C (some (dictOf es n)) := ⟨hx, rfl, rfl, ho⟩
  refine set_plain (s := upd s h tk) F.wdh.K I ok.s (osa_raw (s := s) (tk := tk + 1) F.wdh.K I ok (by rw [getL_of h2 (h3 name)]; rfl) ?_ fun h' hs e => q h' _ (F.puts hp hs e (P.put_old (by rw [hf]; rfl))))
  rw [putL_len_old _ (by rw [h3, hf]; rfl)]; omega
theorem s_attrN {Q : Unit → Shared → Prop} (F : Fx w mg mb g env V M h) (hx : h.get? x = some (instObj C dx)) (hm : At dx (ObjP k f) M) (hp : Put dx (ObjP (k + 1) (fset f name v)) M M') (ok : AttrOk w C name) (hf : f name = none) (hk : k ≤ 900)
    (q : ∀ h' tk', Fx w mg mb g env V M' h' → Q () (upd s h' tk')) : wpAny (model prog w) A (setAttr (.ref x) name v) Q E (upd s h tk) := by
  obtain ⟨o, ho, P⟩ := F.own _ hm.mem
  obtain ⟨es, n, rfl, h1, h2, h3⟩ := id P
  have I : InstAt h x (instObj C dx) C (some (dictOf es n)) := ⟨hx, rfl, rfl, ho⟩
  refine set_plain (s := upd s h tk) F.wdh.K I ok.s (osa_raw (s := s) (tk := tk + 1) F.wdh.K I ok (by rw [getL_of h2 (h3 name)]; rfl) ?_ fun h' hs e => q h' _ (F.puts hp hs e (P.put_new hf)))
  rw [putL_len_new _ (by rw [h3]; exact hf)]; omega
theorem x_setattr {o value : Expr} {attr : Str} {p pos : Pos} {rest : List Stmt} {Q : Flow → Shared → Prop} {MM : Model} {s' : Shared}
    (q : wpAny MM A (eval value env) (fun v s₁ => wpAny MM A (eval o env) (fun ov s₂ => wpAny MM A (setAttr ov attr v) (fun _ s₃ => wpAny MM A (execs rest env) Q E s₃) E s₂) E s₁) E s')
    (hs : swapsWith value (some (.Attribute o attr p)) pos.line env = pure false) : wpAny MM A (execs (.Assign [.Attribute o attr p] value pos :: rest) env) Q E s' :=
  wpAny_execs_cons (plainObj_wpAny_Assign_Attribute q hs)
theorem x_augattr {o value : Expr} {attr : Str} {p pos : Pos} {op : Operator} {rest : List Stmt} {Q : Flow → Shared → Prop} {s' : Shared}
    (q : wpAny (model prog w) A (eval o env) (fun ov s₁ => wpAny (model prog w) A (getAttr ov attr true) (fun old s₂ => wpAny (model prog w) A (eval value env) (fun v s₃ => wpAny (model prog w) A (inplaceOp op old v) (fun new s₄ => wpAny (model prog w) A (setAttr ov attr new) (fun _ s₅ => wpAny (model prog w) A (execs rest env) Q E s₅) E s₄) E s₃) E s₂) E s₁) E s') :
    wpAny (model prog w) A (execs (.AugAssign (.Attribute o attr p) op value pos :: rest) env) Q E s' := wpAny_execs_cons (wpAny_AugAssign_AttributeAny q)

theorem Fx.ownAt {a : Addr} {P : Obj → Prop} (F : Fx w mg mb g env V M h) (hm : At a P M) : ∃ o, h.get? a = some o ∧ P o := F.own _ hm.mem
theorem own_up {a : Addr} {P : Obj → Prop} (k' : Sub g h) (x : ∃ o, g.get? a = some o ∧ P o) : ∃ o, h.get? a = some o ∧ P o := let ⟨o, e, p⟩ := x; ⟨o, k' _ _ e, p⟩
theorem c_cls {fI : Addr} {args : List Value} {R : Result → Shared → Prop} (X : (hd.heap_1 w.params).In h) (hm : makesIn (hd.heap_1 w.params) C = true) (hi : findIn (hd.heap_1 w.params) (.ref C) "__init__" = some (some (.ref fI))) (hf : typeIn (hd.heap_1 w.params) (.ref fI) = some (.type "function"))
    (q : codeAny (model prog w) (A.under (.builtin "type.__call__" ⟨.ref C :: args, []⟩)) (.call (.ref fI) ⟨.ref (h.objs.size + 1) :: args, []⟩) (InitBack (h.objs.size + 1) R) (upd s ((h.push emptyDict).push (instObj C h.objs.size)) tk)) :
    codeAny (model prog w) A (.call (.ref C) ⟨args, []⟩) R (upd s h tk) :=
  make_core (makes_of X hm) (looks_findIn X hi) (fun self => bind_fn X self hf) (.inl rfl) q
theorem Room.cls {n : Nat} {args : List Value} (x : Room (n + 1) A) : Room n (A.under (.builtin "type.__call__" ⟨.ref C :: args, []⟩)) := by
  have h1 : (Code.builtin "type.__call__" ⟨.ref C :: args, []⟩).weight = 1 := by rfl
  have h2 : (Code.builtin "type.__call__" ⟨.ref C :: args, []⟩).cUnits = 1 := by rfl
  refine ⟨x.handled, ?_, ?_⟩
  · show A.depth + Code.weight _ + n < 900
    rw [h1]; have := x.depth; omega
  · show A.units + Code.cUnits _ + 20 * n < 9000
    rw [h2]; have := x.units; omega

theorem e_meth {o : Expr} {attr : Str} {apos pos : Pos} {args : List Expr} {pl : Sem Bool} {Q : Value → Shared → Prop} {s' : Shared} (q : wpAny (model prog w) A (eval o env) (fun ov s₁ => wpAny (model prog w) A (getMethod ov attr pl) (fun fx s₂ => wpAny (model prog w) A (callWith pos fx.1 fx.2 (backTo pos (starEach args env)) []) Q E s₂) E s₁) E s')
    (he : eval (.Call (.Attribute o attr apos) args [] pos) env = (do let ov ← eval o env; standAt apos.atName; let (f, first) ← holding [ov] (getMethod ov attr pl); callWith pos f first (backTo pos (starEach args env)) [])) :
    wpAny (model prog w) A (eval (.Call (.Attribute o attr apos) args [] pos) env) Q E s' := MethodCall_ q he
theorem m_inst {fI : Addr} {pl : Sem Bool} {Q : Value × List Value → Shared → Prop} (F : Rd w mg mb g env V h) (hx : h.get? x = some (instObj C dx)) (hm : ∃ o, h.get? dx = some o ∧ ObjP k f o) (hg : plainGet (hd.heap_1 w.params) C name = true) (hi : findIn (hd.heap_1 w.params) (.ref C) name = some (some (.ref fI))) (hf : typeIn (hd.heap_1 w.params) (.ref fI) = some (.type "function"))
    (hn : f name = none) (q : Q (.ref fI, [.ref x]) (upd s h tk)) : wpAny (model prog w) A (getMethod (.ref x) name pl) Q E (upd s h tk) := by
  obtain ⟨o, ho, es, n, rfl, _, hr, hl⟩ := hm
  have I : InstAt h x (instObj C dx) C (some (dictOf es n)) := ⟨hx, rfl, rfl, ho⟩
  exact method_fn (s := upd s h tk) F.wdh.K I (plainGet_of hg).1 (plainGet_of hg).2 hi hf (by show (lookIn name (dictOf es n)).map _ = _; rw [lookIn_dict, getL_of hr (hl name), hn]; rfl) q
theorem w_args {fv : Value} {first : List Value} {e : Expr} {rest : List Expr} {pos : Pos} {Q : Value → Shared → Prop} {s' : Shared} (hk : KeepF w fv)
    (q : wpAny (model prog w) A (spliced (backTo pos (starEach (e :: rest) env))) (fun vs s₁ => (hd.heap_1 w.params).In s₁.heap ∧ wpAny (model prog w) A (call fv (first ++ vs)) Q E s₁) E s')
    (he : starEach (e :: rest) env = (false, eval e env) :: starEach rest env) (hp : (backTo pos (starEach rest env)).any (·.1) = false) :
    wpAny (model prog w) A (callWith pos fv first (backTo pos (starEach (e :: rest) env)) []) Q E s' := by
  rw [he] at q ⊢
  exact callWith_of (P := fun h => (hd.heap_1 w.params).In h) (by show ((false || (backTo pos (starEach rest env)).any (·.1)) || false) = false; rw [hp]; rfl) (fun h X => hk _ h X) (evalArgs_plain q)
theorem w_args0 {fv : Value} {first : List Value} {pos : Pos} {Q : Value → Shared → Prop} {s' : Shared} (hk : KeepF w fv)
    (q : (hd.heap_1 w.params).In s'.heap ∧ wpAny (model prog w) A (call fv first) Q E s') :
    wpAny (model prog w) A (callWith pos fv first (backTo pos (starEach [] env)) []) Q E s' :=
  callWith_of (P := fun h => (hd.heap_1 w.params).In h) rfl (fun h X => hk _ h X) (evalArgs_nil3 ⟨q.1, by rw [List.append_nil]; exact q.2⟩)

noncomputable def DcP (prog : Program) (w : World) (kvs : List (Int × Value)) : Obj → Prop := fun o => ∃ es ep, o.ExactDict ∧ o.data = .dict es ep ∧ KeysOf (intKind prog w) es ∧ Pairs (intKind prog w) es.toList kvs ∧ (kvs.map (·.1)).Nodup
theorem dc_of {a : Addr} {kvs : List (Int × Value)} (x : ∃ o, h.get? a = some o ∧ DcP prog w kvs o) : h.DictOf (intKind prog w) a kvs := let ⟨o, e, es, ep, r⟩ := x; ⟨o, es, ep, e, r⟩
theorem of_dc {a : Addr} {kvs : List (Int × Value)} (x : h.DictOf (intKind prog w) a kvs) : ∃ o, h.get? a = some o ∧ DcP prog w kvs o := let ⟨o, es, ep, e, r⟩ := x; ⟨o, e, es, ep, r⟩
theorem not_mods (W : (hd.heap_1 w.params).In h) : (h.objs.size == sysModules) = false := by
  have : 289 < h.objs.size := Heap.lt_size (W 289 _ rfl)
  have : h.objs.size ≠ 1 := by omega
  simpa [sysModules] using this
theorem e_dict {pos : Pos} {Q : Value → Shared → Prop} (F : Fx w mg mb g env V M h) (q : ∀ d h', (d == sysModules) = false → Fx w mg mb g env V ((d, DcP prog w []) :: M) h' → h.get? d = none → Sub h h' → Q (.ref d) (upd s h' tk)) : wpAny (model prog w) A (eval (.Dict [] [] pos) env) Q E (upd s h tk) := by
  rw [eval_Dict_empty]
  refine wpAny_bind (wpAny_standAt (wpAny_newObj_type (s := upd s h tk) ?_ (by show (0 : Nat) ≤ _; exact Nat.zero_le _)))
  have D := of_dc (Heap.DictOf.new (knd := intKind prog w) h)
  obtain ⟨o, e, p⟩ := D
  exact q _ _ (not_mods F.wdh.K) (F.adopt (Sub.push _ _) (fresh_size h) e p) (fresh_size h) (Sub.push _ _)

theorem Fx.refreeze {h' : Heap} (F : Fx w mg mb g env V M h) (k' : Sub h h') : ∃ g', Sub g g' ∧ Fx w mg mb g' env V M h' ∧ ∀ a o, h.get? a = none → h'.get? a = some o → g'.get? a = some o :=
  ⟨frz env M h', (F.ext k').sub_frz, (F.ext k').freeze, fun a o e e' => (F.ext k').frz_get e' (F.new_out e)⟩
theorem set_d {d : Addr} {kvs : List (Int × Value)} {n : Int} {t : Tok} {v : Value} {Q : Unit → Shared → Prop} (F : Fx w mg mb g env V M h) (hm : At d (DcP prog w kvs) M) (hp : Put d (DcP prog w (stored kvs n v)) M M') (hz : kvs.length ≤ 1000)
    (q : ∀ h' tk', Fx w mg mb g env V M' h' → Q () (upd s h' tk')) : wpAny (model prog w) A (setItem (.ref d) (.int n t) v) Q E (upd s h tk) := by
  refine wpAny_setItem_pairs (s := upd s h tk) (knd := intKind prog w) (k := n) (by simp [intKind, Value.isInt]) (dc_of (F.ownAt hm)) (fun h' D hs => ?_) ?_
  · obtain ⟨o, e, p⟩ := of_dc D
    exact q h' _ (F.puts hp hs e p)
  · rw [sizeLine_eq]; omega
theorem sub_d {d : Addr} {kvs : List (Int × Value)} {n : Int} {t : Tok} {v : Value} {Q : Value → Shared → Prop} (hd : ∃ o, h.get? d = some o ∧ DcP prog w kvs o) (hv : valueAt kvs n = some v) (q : ∀ tk', Q v (upd s h tk')) : SubscriptOn (model prog w) A (.ref d) (.int n t) Q E (upd s h tk) := by
  have D := dc_of hd
  exact ⟨"dict", _, F.slot_dict_getitem.lookup, D.typeIs (s := upd s h tk), wpAny_getItem_of (s := upd s h tk) (knd := intKind prog w) (k := n) (by simp [intKind, Value.isInt]) D.mapOf hv (q _)⟩
theorem in_d {d : Addr} {kvs : List (Int × Value)} {n : Int} {t : Tok} {Q : Value → Shared → Prop} (hd : ∃ o, h.get? d = some o ∧ DcP prog w kvs o) (hm : (d == sysModules) = false) (q : ∀ tk', Q (.bool (valueAt kvs n).isSome) (upd s h tk')) : wpAny (model prog w) A (compareOp .In (.int n t) (.ref d)) Q E (upd s h tk) :=
  wpAny_in_of (s := upd s h tk) (knd := intKind prog w) (k := n) (by simp [intKind, Value.isInt]) hm (dc_of hd).mapOf (q _)
theorem b_lend {d : Addr} {kvs : List (Int × Value)} {Q : Value → Shared → Prop} (hd : ∃ o, h.get? d = some o ∧ DcP prog w kvs o) (hm : (d == sysModules) = false) (hz : kvs.length ≤ 1000) (q : ∀ t tk', Q (.int kvs.length t) (upd s h tk')) : wpAny (model prog w) A (call (.builtin "len") [.ref d]) Q E (upd s h tk) :=
  call_len_dict (s := upd s h tk) hm (dc_of hd) (by omega) (q _ _)
end
end Mine
end PObj
section PDic
open PySem PySem.W PyProof.Rows PySem.Calls
set_option Elab.async false
set_option linter.unusedVariables false
set_option maxRecDepth 100000
namespace Mine
theorem keep_type {w : World} (t : String) : KeepF w (.type t) := fun _ _ _ => ⟨.machine, .inr (.inl rfl), .now⟩
section
variable {w : World} {prog : Program} {A : Around} {E : Value → Shared → Prop} {s : Shared} {h : Heap} {tk n : Nat} {d : Addr} {kvs : List (Int × Value)} {Q : Value → Shared → Prop}
theorem ints_of_items {vs : List Value} {ns : List Int} (hl : vs.length = ns.length) (hv : ∀ (j : Nat) v, vs[j]? = some v → ∃ t, ∃ k, ns[j]? = some k ∧ v = .int k t) : IntsAre vs ns := by
  induction vs generalizing ns with
  | nil =>
    cases ns with
    | nil => exact .nil
    | cons _ _ => cases hl
  | cons v vs ih =>
    cases ns with
    | nil => cases hl
    | cons k ns =>
      obtain ⟨t, k', e, rfl⟩ := hv 0 v rfl
      cases e
      exact .cons _ _ (ih (by simpa using hl) fun j v e => hv (j + 1) v e)
theorem keys_items {acc : Array Value} {kvs : List (Int × Value)} (hi : ItemsOf (fun i v => ∃ k x, kvs[i]? = some (k, x) ∧ (intKind prog w).is k v = true) acc kvs.length) : IntsAre acc.toList (kvs.map (·.1)) := by
  refine ints_of_items (by simp [hi.1]) fun j v e => ?_
  obtain ⟨k, x, e1, e2⟩ := hi.2 j v (by rw [← Array.getElem?_toList]; exact e)
  obtain ⟨t, rfl⟩ := Value.isInt_shape e2
  exact ⟨t, k, by simp [e1], rfl⟩
theorem b_listd (R : Room n A) (hd : ∃ o, h.get? d = some o ∧ DcP prog w kvs o) (hm : (d == sysModules) = false) (hz : kvs.length ≤ 1000)
    (q : ∀ D h' tk' vs c, Sub h h' → h.get? D = none → h'.get? D = some (listOf (List.toArray vs) c) → IntsAre vs (kvs.map (·.1)) → Q (.ref D) (upd s h' tk')) : wpAny (model prog w) A (call (.type "list") [.ref d]) Q E (upd s h tk) := by
  obtain ⟨ep, hat⟩ := (dc_of hd).dictAt
  refine kdl_call (s := upd s h tk) (kdl_dict (knd := intKind prog w) (kvs := kvs) (ep := ep) hm) R.handled hat (by rw [sizeLine_eq]; omega) fun h' tk' acc c hk e hi => ?_
  exact q _ h' tk' acc.toList c hk (fresh_size h) (by simpa using e) (keys_items hi)
theorem b_sortd (R : Room (n + 1) A) (hd : ∃ o, h.get? d = some o ∧ DcP prog w kvs o) (hm : (d == sysModules) = false) (hz : kvs.length < 64)
    (q : ∀ a h' tk' out ns' c, Sub h h' → h.get? a = none → h'.get? a = some (listOf (List.toArray out) c) → IntsAre out ns' → ns'.Perm (kvs.map (·.1)) → ns'.Pairwise (· ≤ ·) → Q (.ref a) (upd s h' tk')) : wpAny (model prog w) A (call (.builtin "sorted") [.ref d]) Q E (upd s h tk) := by
  obtain ⟨ep, hat⟩ := (dc_of hd).dictAt
  refine Calls.call_function_entry kind_sorted plain_sorted entry_sorted (args_sorted1 _) ?_
  unfold Builtin.«sorted»
  refine wpAny_bind (m := checkCount "sorted" 1 1 _) (wpAny_pure ?_)
  refine wpAny_bind (kdu_collect (s := upd s h tk) (kdl_dict (knd := intKind prog w) (kvs := kvs) (ep := ep) hm) R.handled hat (by rw [sizeLine_eq]; omega) fun h₁ tk₁ acc k₁ hi => ?_)
  have hI := keys_items hi
  generalize acc.toList = vs at hI
  have hvl : vs.length = kvs.length := by rw [hI.length]; simp
  refine wpAny_bind (wpAny_newList (s := upd s h₁ tk₁) ?_ (by rw [sizeLine_eq]; omega))
  have hoL := Heap.get?_push_size h₁ (o := seqObj "list" vs.toArray 0) rfl
  have hn : h.get? h₁.objs.size = none := by
    cases e : h.get? h₁.objs.size with
    | none => rfl
    | some o => exact absurd (Heap.lt_size (k₁ _ _ e)) (Nat.lt_irrefl _)
  refine wpAny_bind (wpAny_holding (wpAny_call_entry slot_list_sort (s := upd s (h₁.push (seqObj "list" vs.toArray 0)) tk₁) ⟨_, hoL, rfl⟩ entry_list_sort ?_ (args_list_sort _)))
  refine list_sort_tree (s := upd s (h₁.push (seqObj "list" vs.toArray 0)) tk₁) hoL hI (by omega) fun out ns' hi' hp hs => ⟨_, rfl, wpAny_pure ⟨_, rfl, ?_⟩⟩
  obtain ⟨c', e'⟩ := sortedHeap_at (out := out) hoL
  have k₂ : Sub h (h₁.push (seqObj "list" vs.toArray 0)) := Sub.trans k₁ (Sub.push _ _)
  refine q _ (sortedHeap (h₁.push (seqObj "list" vs.toArray 0)) h₁.objs.size vs out) tk₁ out.toList ns' c' (sortedHeap_sub k₂ hn (Heap.lt_size hoL)) hn ?_ hi' hp hs
  rw [Array.toArray_toList]; exact e'
theorem b_mind (R : Room n A) (hd : ∃ o, h.get? d = some o ∧ DcP prog w kvs o) (hm : (d == sysModules) = false) (h0 : kvs ≠ [])
    (q : ∀ h' m t tk', Sub h h' → m ∈ kvs.map (·.1) → (∀ k ∈ kvs.map (·.1), m ≤ k) → Q (.int m t) (upd s h' tk')) : wpAny (model prog w) A (call (.builtin "min") [.ref d]) Q E (upd s h tk) := by
  obtain ⟨ep, hat⟩ := (dc_of hd).dictAt
  have hlt := hat.lt_size
  have hpos : 0 < kvs.length := List.length_pos_iff.mpr h0
  let val : Nat → Int := fun i => ((kvs[i]?).map (·.1)).getD 0
  have hval : ∀ i v, (∃ k x, kvs[i]? = some (k, x) ∧ (intKind prog w).is k v = true) → ∃ t, v = .int (val i) t := by
    rintro i v ⟨k, x, e1, e2⟩
    obtain ⟨t, rfl⟩ := Value.isInt_shape e2
    exact ⟨t, by simp only [val, e1]; rfl⟩
  refine call_min_walk (s := upd s h tk) (wpAny_pyIter_dict (s := upd s h tk) (knd := intKind prog w) hm hat ?_)
  refine ⟨h.objs.size, [h.objs.size, d], [h.objs.size], kvs.length, _, _, fun i j => decide (val i < val j), rfl, Walks.dictKeys (A := A.in1) (knd := intKind prog w) R.handled _ d (Nat.ne_of_lt hlt) kvs ep,
    ⟨⟨_, Heap.get?_push_size _ rfl, rfl, rfl⟩, hat.push _⟩, fun b hb => ?_, hpos, CmpOf.ints_lt val hval, fun v h' tk' hP hk => ?_⟩
  · simp only [List.mem_cons, List.not_mem_nil, or_false] at hb
    show b < (h.push _).objs.size
    rw [Heap.size_push]
    rcases hb with rfl | rfl
    · exact Nat.lt_succ_self _
    · exact Nat.lt_succ_of_lt hlt
  · obtain ⟨t, rfl⟩ := hval _ v hP
    obtain ⟨k, x, e1, _⟩ := hP
    obtain ⟨_, hb⟩ := argBest_lt val (kvs.length - 1)
    refine q h' _ t tk' (sub_iter hk) ?_ fun k' hk' => ?_
    · exact List.mem_map.mpr ⟨(k, x), List.mem_of_getElem? e1, by simp only [val, e1]; rfl⟩
    · obtain ⟨i, hi, rfl⟩ := List.mem_iff_getElem.mp hk'
      have hi' : i < kvs.length := by simpa using hi
      have := hb i (by omega)
      have e : val i = (kvs.map (·.1))[i] := by simp [val, hi']
      rwa [e] at this
theorem m_pop {pl : Sem Bool} {Q : Value × List Value → Shared → Prop} (hd : ∃ o, h.get? d = some o ∧ DcP prog w kvs o) (q : Q (.builtin "dict.pop", [.ref d]) (upd s h tk)) : wpAny (model prog w) A (getMethod (.ref d) "pop" pl) Q E (upd s h tk) := by
  have D := dc_of hd
  exact getMethod_builtin (D.typeIs (s := upd s h tk)) PySem.F.plainAttrs_dict PySem.F.slot_dict_pop (by rfl) D.mapOf.noDict q
theorem b_pop {k : Int} {t : Tok} {v : Value} (hd : ∃ o, h.get? d = some o ∧ DcP prog w kvs o) (hl : valueAt kvs k = some v) (hz : kvs.length ≤ 1000) (q : ∀ h' tk', Heap.SameBut d h h' → (∃ o, h'.get? d = some o ∧ DcP prog w (without kvs k) o) → Q v (upd s h' tk')) :
    wpAny (model prog w) A (call (.builtin "dict.pop") [.ref d, .int k t]) Q E (upd s h tk) := by
  have D := dc_of hd
  exact call_meetsIn (s := upd s h tk) PySem.F.slot_dict_pop (D.typeIs (s := upd s h tk)) PySem.F.entry_dict_pop (PySem.F.args_dict_pop_2 _ _) (meets_dict_pop_there (intKind prog w) d (k := k) (by simp [intKind, Value.isInt]) [] (.inl rfl) (by rfl))
    ⟨kvs, v, D, by rw [sizeLine_eq]; omega, hl, fun h' hmm hs => q h' _ hs (of_dc hmm)⟩
end
end Mine
end PDic
section PWhl
open PySem PySem.W PyProof.Rows PySem.Calls
set_option Elab.async false
set_option linter.unusedVariables false
set_option maxRecDepth 100000
namespace Mine
noncomputable def spNames : List Str := ["number", "time", "size", "frames", "is_eliciting", "in_flight"]
noncomputable def scNames : List Str := ["name", "next_number", "sent", "largest_acked", "acked", "last_eliciting_time", "loss_time", "received", "largest_seen", "largest_time", "floor", "first_unacked", "unacked", "wants_now", "has_new", "ecn", "is_gone"]
theorem ok_sp {w : World} {x : Str} (hx : x ∈ spNames) : AttrOk w 111 x := by
  simp only [spNames, List.mem_cons, List.not_mem_nil, or_false] at hx
  rcases hx with rfl | rfl | rfl | rfl | rfl | rfl <;> exact ⟨by kernel_rfl, by kernel_rfl, by kernel_rfl, by kernel_rfl, by kernel_rfl⟩
theorem ok_sc {w : World} {x : Str} (hx : x ∈ scNames) : AttrOk w 256 x := by
  simp only [scNames, List.mem_cons, List.not_mem_nil, or_false] at hx
  rcases hx with rfl | rfl | rfl | rfl | rfl | rfl | rfl | rfl | rfl | rfl | rfl | rfl | rfl | rfl | rfl | rfl | rfl <;> exact ⟨by kernel_rfl, by kernel_rfl, by kernel_rfl, by kernel_rfl, by kernel_rfl⟩
theorem Ways.join {MM : Model} {env : Env} {body orelse : Expr} {Q : Value → Shared → Prop} {b : Bool} {s' : Shared} (G : Value → Shared → Prop) (hG : Ways (fun s₂ => wpAny MM A (eval body env) G E s₂) (fun s₂ => wpAny MM A (eval orelse env) G E s₂) b s') (q : ∀ v s'', G v s'' → Q v s'') :
    Ways (fun s₂ => wpAny MM A (eval body env) Q E s₂) (fun s₂ => wpAny MM A (eval orelse env) Q E s₂) b s' := by
  cases b <;> exact wpAny_mono hG q fun _ _ e => e
section
variable {w : World} {mg mb : Str → Option Value} {g h : Heap} {env : Env} {V V' : List (Str × Option Value)} {M M' : List (Addr × (Obj → Prop))}
variable {prog : Program} {A : Around} {E : Value → Shared → Prop} {s : Shared} {tk : Nat}
noncomputable def WEnd (w : World) (mg mb : Str → Option Value) (s : Shared) (env : Env) (g₁ : Heap) (m : Nat) (J : Nat → Heap → List (Str × Option Value) → List (Addr × (Obj → Prop)) → Prop) (Brk : Shared → Prop) (Ret : Value → Shared → Prop) : Flow → Shared → Prop
  | .brk, s' => Brk s'
  | .ret v, s' => Ret v s'
  | _, s' => ∃ m' g₂ V₂ M₂ h₂ tk₂, s' = upd s h₂ tk₂ ∧ m' < m ∧ Sub g₁ g₂ ∧ J m' g₂ V₂ M₂ ∧ Fx w mg mb g₂ env V₂ M₂ h₂
theorem WEnd.nxt {g₁ g₂ h₂ : Heap} {m m' : Nat} {J : Nat → Heap → List (Str × Option Value) → List (Addr × (Obj → Prop)) → Prop} {Brk : Shared → Prop} {Ret : Value → Shared → Prop} {V₂ : List (Str × Option Value)} {M₂ : List (Addr × (Obj → Prop))} {tk₂ : Nat}
    (F : Fx w mg mb g₂ env V₂ M₂ h₂) (hm : m' < m) (k : Sub g₁ g₂) (j : J m' g₂ V₂ M₂) : WEnd w mg mb s env g₁ m J Brk Ret .next (upd s h₂ tk₂) := ⟨m', g₂, V₂, M₂, h₂, tk₂, rfl, hm, k, j, F⟩
theorem x_while {test : Expr} {body rest : List Stmt} {pos : Pos} {Q : Flow → Shared → Prop} (J : Nat → Heap → List (Str × Option Value) → List (Addr × (Obj → Prop)) → Prop) (m₀ : Nat)
    (F : Fx w mg mb g env V M h) (hJ0 : J m₀ g V M)
    (turn : ∀ m g₁ V₁ M₁ h₁ tk₁, J m g₁ V₁ M₁ → Sub g g₁ → Fx w mg mb g₁ env V₁ M₁ h₁ →
      wpAny (model prog w) A (PySem.isTrue test env (eval test env)) (Ways (fun s₂ => wpAny (model prog w) A (execs body env) (WEnd w mg mb s env g₁ m J (fun s' => wpAny (model prog w) A (execs rest env) Q E s') (fun v s' => Q (.ret v) s')) (fun _ _ => False) s₂)
        (fun s₂ => wpAny (model prog w) A (execs rest env) Q E s₂)) (fun _ _ => False) (upd s h₁ tk₁)) :
    wpAny (model prog w) A (execs (.While test body [] pos :: rest) env) Q E (upd s h tk) := by
  refine x_cons (wpAny_While ?_)
  refine codeAny_whileLoop (fun m s' => ∃ g₁ V₁ M₁ h₁ tk₁, s' = upd s h₁ tk₁ ∧ J m g₁ V₁ M₁ ∧ Sub g g₁ ∧ Fx w mg mb g₁ env V₁ M₁ h₁) ?_ m₀ ⟨g, V, M, h, tk, rfl, hJ0, Sub.rfl' _, F⟩
  rintro m s' ⟨g₁, V₁, M₁, h₁, tk₁, rfl, hJ, k₁, F₁⟩
  refine wpAny_mono (turn m g₁ V₁ M₁ h₁ tk₁ hJ k₁ F₁) (fun b s₂ hb => ?_) fun _ _ e => e.elim
  cases b with
  | true =>
    refine wpAny_mono hb (fun f s₃ hf => ?_) fun _ _ e => e.elim
    have fin : (∃ m' g₂ V₂ M₂ h₂ tk₂, s₃ = upd s h₂ tk₂ ∧ m' < m ∧ Sub g₁ g₂ ∧ J m' g₂ V₂ M₂ ∧ Fx w mg mb g₂ env V₂ M₂ h₂) → ∃ m', m' < m ∧ ∃ g₁ V₁ M₁ h₁ tk₁, s₃ = upd s h₁ tk₁ ∧ J m' g₁ V₁ M₁ ∧ Sub g g₁ ∧ Fx w mg mb g₁ env V₁ M₁ h₁ := by
      rintro ⟨m', g₂, V₂, M₂, h₂, tk₂, e, hm, k₂, j, F₂⟩
      exact ⟨m', hm, g₂, V₂, M₂, h₂, tk₂, e, j, k₁.trans k₂, F₂⟩
    cases f with
    | brk => exact hf
    | ret v => exact hf
    | next => exact fin hf
    | cont => exact fin hf
  | false => exact x_nil hb
theorem x_expr {e : Expr} {epos : Pos} {rest : List Stmt} {Q : Flow → Shared → Prop} {s' : Shared} (q : wpAny (model prog w) A (eval e env) (fun _ s₁ => wpAny (model prog w) A (execs rest env) Q E s₁) E s')
    (hi : interactive env = false) (hs : swapsWith e none epos.line env = pure false) : wpAny (model prog w) A (execs (.Expr e epos :: rest) env) Q E s' := wpAny_execs_cons (wpAny_Expr_any q hi hs)
theorem mt_171 {w : World} : findIn (hd.heap_1 w.params) (.ref 256) "take_number" = some (some (.ref 171)) := by kernel_rfl
theorem mt_178 {w : World} : findIn (hd.heap_1 w.params) (.ref 256) "on_sent" = some (some (.ref 178)) := by kernel_rfl
theorem mt_183 {w : World} : findIn (hd.heap_1 w.params) (.ref 256) "take" = some (some (.ref 183)) := by kernel_rfl
theorem mt_190 {w : World} : findIn (hd.heap_1 w.params) (.ref 256) "acked_by" = some (some (.ref 190)) := by kernel_rfl
theorem mt_204 {w : World} : findIn (hd.heap_1 w.params) (.ref 256) "note_ranges" = some (some (.ref 204)) := by kernel_rfl
theorem mt_218 {w : World} : findIn (hd.heap_1 w.params) (.ref 256) "note_largest" = some (some (.ref 218)) := by kernel_rfl
theorem mt_246 {w : World} : findIn (hd.heap_1 w.params) (.ref 256) "sent_rows" = some (some (.ref 246)) := by kernel_rfl
theorem pg_sc {w : World} {x : Str} : plainGet (hd.heap_1 w.params) 256 x = true := by show (_ && _) = true; kernel_rfl
theorem Fx.keysNd (F : Fx w mg mb g env V M h) : (M.map (·.1)).Nodup := (List.nodup_append.mp (List.nodup_cons.mp F.nd).2).2.1
theorem Fx.ch2r {M₁ M₂ : List (Addr × (Obj → Prop))} {h' : Heap} {a b : Addr} {P Q : Obj → Prop} (F : Fx w mg mb g env V M h) (k : But [a, b] h h') (hp₁ : Put a P M M₁) (hp₂ : Put b Q M₁ M₂) (hab : a ≠ b) (x : ∃ o, h'.get? a = some o ∧ P o) (y : ∃ o, h'.get? b = some o ∧ Q o) :
    ∃ g', Sub g g' ∧ Fx w mg mb g' env V M₂ h' ∧ ∀ c o, h.get? c = none → h'.get? c = some o → g'.get? c = some o := by
  have hn := F.keysNd
  have F' : Fx w mg mb g env V M₂ h' := by
    refine F.changes (mods := [a, b]) k ?_ (by rw [hp₂.keys, hp₁.keys]) ?_
    · intro c hc
      simp only [List.mem_cons, List.not_mem_nil, or_false] at hc
      rcases hc with rfl | rfl
      · exact hp₁.has
      · rw [← hp₁.keys]; exact hp₂.has
    · intro q hq
      rcases hp₂.mem (by rw [hp₁.keys]; exact hn) q hq with rfl | ⟨hb, hq⟩
      · exact y
      · rcases hp₁.mem hn q hq with rfl | ⟨ha, hq⟩
        · exact x
        · obtain ⟨o, e, r⟩ := F.own q hq
          exact ⟨o, k _ _ (by simp [ha, hb]) e, r⟩
  refine ⟨frz env M₂ h', F'.sub_frz, F'.freeze, fun c o e e' => F'.frz_get e' ?_⟩
  have := F.new_out e
  rw [hp₂.keys, hp₁.keys]; exact this
theorem Fx.ch1r {M₁ : List (Addr × (Obj → Prop))} {h' : Heap} {a : Addr} {P : Obj → Prop} (F : Fx w mg mb g env V M h) (k : But [a] h h') (hp₁ : Put a P M M₁) (x : ∃ o, h'.get? a = some o ∧ P o) :
    ∃ g', Sub g g' ∧ Fx w mg mb g' env V M₁ h' ∧ ∀ c o, h.get? c = none → h'.get? c = some o → g'.get? c = some o := by
  obtain ⟨o, e, p⟩ := x
  have F' : Fx w mg mb g env V M₁ h' := F.put hp₁ (fun b o hb e => k b o (by simpa using hb) e) e p
  refine ⟨frz env M₁ h', F'.sub_frz, F'.freeze, fun c o e e' => F'.frz_get e' ?_⟩
  have := F.new_out e
  rw [hp₁.keys]; exact this
theorem Ways.joinF {body orelse : Expr} {Q : Value → Shared → Prop} {b : Bool} {h₀ : Heap} {tk₀ : Nat} (F : Fx w mg mb g env V M h) (N : Value → List (Addr × (Obj → Prop)) → Prop)
    (hG : Ways (fun s₂ => wpAny (model prog w) A (eval body env) (fun v s'' => ∃ h' tk' Mn, s'' = upd s h' tk' ∧ N v Mn ∧ Fx w mg mb g env V (Mn ++ M) h') E s₂) (fun s₂ => wpAny (model prog w) A (eval orelse env) (fun v s'' => ∃ h' tk' Mn, s'' = upd s h' tk' ∧ N v Mn ∧ Fx w mg mb g env V (Mn ++ M) h') E s₂) b (upd s h₀ tk₀))
    (q : ∀ v h' tk' Mn, N v Mn → Fx w mg mb g env V (Mn ++ M) h' → Q v (upd s h' tk')) :
    Ways (fun s₂ => wpAny (model prog w) A (eval body env) Q E s₂) (fun s₂ => wpAny (model prog w) A (eval orelse env) Q E s₂) b (upd s h₀ tk₀) :=
  Ways.join _ hG fun v s'' ⟨h', tk', Mn, e, hN, F'⟩ => e ▸ q v h' tk' Mn hN F'
theorem Fx.all_but {d : Addr} (F : Fx w mg mb g env V M h) (hd : g.get? d = none) : Wd w mg mb (dropAt h [d]) ∧ Sub (dropAt h [d]) h ∧ Sub g (dropAt h [d]) := by
  have k : Sub g (dropAt h [d]) := fun b o e => dropAt_get (by simp only [List.mem_singleton]; rintro rfl; rw [hd] at e; cases e) (F.keep b o e)
  exact ⟨F.wd.keeps k, dropAt_sub _ _, k⟩
theorem Fx.perm (F : Fx w mg mb g env V M h) (hp : M.Perm M') : Fx w mg mb g env V M' h := by
  have hm : (M.map (·.1)).Perm (M'.map (·.1)) := hp.map _
  have hm2 : (env.locals :: (env.cells.map (·.2) ++ M.map (·.1))).Perm (env.locals :: (env.cells.map (·.2) ++ M'.map (·.1))) := (hm.append_left _).cons _
  exact { F.toRd with own := (fun p hp' => F.own p (hp.mem_iff.mpr hp')), gn := (fun a ha => F.gn a (hm2.mem_iff.mpr ha)), nd := hm2.nodup_iff.mp F.nd, vn := F.vn, cl := F.cl }
theorem Fx.pull {e : Addr × (Obj → Prop)} {post : List (Addr × (Obj → Prop))} (pre : List (Addr × (Obj → Prop))) (F : Fx w mg mb g env V (pre ++ e :: post) h) : Fx w mg mb g env V (e :: (pre ++ post)) h := F.perm List.perm_middle
theorem Fx.put2 {e a b : Addr × (Obj → Prop)} {r : List (Addr × (Obj → Prop))} (F : Fx w mg mb g env V (e :: a :: b :: r) h) : Fx w mg mb g env V (a :: b :: e :: r) h := F.perm ((List.Perm.swap _ _ _).trans ((List.Perm.swap _ _ _).cons _))
theorem Fx.frzc {G : Prop} {a : Addr} {P : Obj → Prop} (F : Fx w mg mb g env V ((a, P) :: M) h) (q : ∀ g' o, Sub g g' → g'.get? a = some o → P o → Fx w mg mb g' env V M h → G) : G := let ⟨g', o, x, y, z, t⟩ := F.frz1; q g' o x y z t
theorem Fx.refrc {G : Prop} {h' : Heap} (F : Fx w mg mb g env V M h) (k' : Sub h h') (q : ∀ g', Sub g g' → Fx w mg mb g' env V M h' → (∀ a o, h.get? a = none → h'.get? a = some o → g'.get? a = some o) → G) : G := let ⟨g', x, y, z⟩ := F.refreeze k'; q g' x y z
theorem Fx.ch1c {G : Prop} {M₁ : List (Addr × (Obj → Prop))} {h' : Heap} {a : Addr} {P : Obj → Prop} (F : Fx w mg mb g env V M h) (k : But [a] h h') (hp₁ : Put a P M M₁) (x : ∃ o, h'.get? a = some o ∧ P o)
    (q : ∀ g', Sub g g' → Fx w mg mb g' env V M₁ h' → (∀ c o, h.get? c = none → h'.get? c = some o → g'.get? c = some o) → G) : G := let ⟨g', x, y, z⟩ := F.ch1r k hp₁ x; q g' x y z
theorem Fx.ch2c {G : Prop} {M₁ M₂ : List (Addr × (Obj → Prop))} {h' : Heap} {a b : Addr} {P Q : Obj → Prop} (F : Fx w mg mb g env V M h) (k : But [a, b] h h') (hp₁ : Put a P M M₁) (hp₂ : Put b Q M₁ M₂) (hab : a ≠ b) (x : ∃ o, h'.get? a = some o ∧ P o) (y : ∃ o, h'.get? b = some o ∧ Q o)
    (q : ∀ g', Sub g g' → Fx w mg mb g' env V M₂ h' → (∀ c o, h.get? c = none → h'.get? c = some o → g'.get? c = some o) → G) : G := let ⟨g', x, y, z⟩ := F.ch2r k hp₁ hp₂ hab x y; q g' x y z
theorem Fx.pull1 {e a : Addr × (Obj → Prop)} {r : List (Addr × (Obj → Prop))} (F : Fx w mg mb g env V (a :: e :: r) h) : Fx w mg mb g env V (e :: a :: r) h := F.perm (List.Perm.swap _ _ _)
theorem Fx.pull2 {e a b : Addr × (Obj → Prop)} {r : List (Addr × (Obj → Prop))} (F : Fx w mg mb g env V (a :: b :: e :: r) h) : Fx w mg mb g env V (e :: a :: b :: r) h := F.perm (((List.Perm.swap _ _ _).cons _).trans (List.Perm.swap _ _ _))
theorem notIn_ints {l : Addr} {items : List Value} {ns : List Int} {x : Int} {t : Tok} {Q : Value → Shared → Prop} (hl : IsL h l items) (hi : IntsAre items ns) (q : Q (.bool (!ns.contains x)) (upd s h tk)) :
    wpAny (model prog w) A (compareOp .NotIn (.int x t) (.ref l)) Q E (upd s h tk) := by
  have key : (items.toArray.any fun v => match v with | .int y _ => y == x | _ => false) = ns.contains x := by
    simp only [List.any_toArray]
    clear hl q
    induction hi with
    | nil => rfl
    | cons n _ _ ih =>
      rw [List.any_cons, List.contains_cons, ih]
      congr 1
      exact Bool.beq_comm
  refine SeqAt.notIn_listAt (s := upd s h tk) (fun v => match v with | .int y _ => y == x | _ => false) hl (fun y hy => ?_) (by rw [key]; exact q)
  have : ∃ z u, y = .int z u := by
    replace hy : y ∈ items := by simpa using hy
    clear hl q key
    induction hi with
    | nil => cases hy
    | cons z u _ ih => rcases List.mem_cons.mp hy with rfl | hy; exact ⟨_, _, rfl⟩; exact ih hy
  obtain ⟨z, u, rfl⟩ := this
  exact SeqAt.EqAt.int_int z u x t
theorem b_range {n : Nat} {t₀ : Tok} {Q : Value → Shared → Prop} (q : ∀ r h' tk' t u v, Sub h h' → IsRange h' r 0 n 1 t u v → Q (.ref r) (upd s h' tk')) : wpAny (model prog w) A (call (.type "range") [.int n t₀]) Q E (upd s h tk) :=
  call_range_1 (s := upd s h tk) (q _ _ _ _ _ _ (Sub.push _ _) (IsRange.new _ _ _ _ _ _ _))
end
end Mine
end PWhl
section PC
open PySem PySem.W PyProof.Rows PySem.Calls
set_option Elab.async false
set_option linter.unusedVariables false
set_option maxRecDepth 100000
set_option maxHeartbeats 4000000
set_option compiler.extract_closed false
namespace Mine
local macro_rules | `(tactic| walk_at "vars") => `(tactic| (intro L; repeat' (first | exact List.forall_mem_nil _ | (refine List.forall_mem_cons.mpr ⟨?_, ?_⟩; (first | exact .inl ⟨rfl, rfl⟩ | exact .inr ⟨rfl, ⟨_, rfl⟩, rfl⟩)))))
local macro_rules | `(tactic| walk_at "at") => `(tactic| first | with_reducible exact At.head | ((with_reducible refine At.tail ?_); walk_at "at"))
local macro_rules | `(tactic| walk_at "put") => `(tactic| first | with_reducible exact Put.head | ((with_reducible refine' Put.tail ?b); (case b => walk_at "put")))
local macro_rules | `(tactic| walk_at "fr") => `(tactic| first | with_reducible assumption | with_reducible exact Fx.toRd (by with_reducible assumption) | assumption | exact Fx.toRd (by assumption))
local macro_rules | `(tactic| walk_at "fx") => `(tactic| first | with_reducible assumption | assumption)
local macro_rules | `(tactic| walk_at "gl") => `(tactic| first | with_reducible assumption | exact glob_B (by kernel_rfl) (by boot_by_name) (by decide) | exact glob_K (by rfl))
local macro_rules | `(tactic| walk_at "kp") => `(tactic| first | with_reducible exact keep_builtin _ | with_reducible exact keep_type _ | with_reducible exact keep_fn (by kernel_rfl))
local macro_rules | `(tactic| walk_at "kin") => `(tactic| ((with_reducible refine' kin ?F); (case F => walk_at "fr")))
local macro_rules | `(tactic| walk_at "isl") => `(tactic| first | with_reducible assumption | exact Fx.isL (by with_reducible assumption) (by walk_at "at") | exact IsL.up (Fx.toRd (by with_reducible assumption)).keep (by with_reducible assumption) | exact IsL.up (Rd.keep (by with_reducible assumption)) (by with_reducible assumption) | assumption)
local macro_rules | `(tactic| walk_at "ist") => `(tactic| first | with_reducible assumption | exact Fx.isT (by with_reducible assumption) (by walk_at "at") | exact IsT.up (Fx.toRd (by with_reducible assumption)).keep (by with_reducible assumption) | exact IsT.up (Rd.keep (by with_reducible assumption)) (by with_reducible assumption) | assumption)
local macro_rules | `(tactic| walk_at "size") => `(tactic| first | omega | (simp only [sizeLine_eq, List.length_cons, List.length_nil, List.length_append] at *; omega))
local macro_rules | `(tactic| walk_at "inst") => `(tactic| first | with_reducible assumption | exact (Fx.toRd (by with_reducible assumption)).keep _ _ (by with_reducible assumption) | exact (Rd.keep (by with_reducible assumption)) _ _ (by with_reducible assumption))
local macro_rules | `(tactic| walk_at "own") => `(tactic| first | exact Fx.ownAt (by with_reducible assumption) (by walk_at "at") | with_reducible assumption | exact own_up (Fx.toRd (by with_reducible assumption)).keep (by with_reducible assumption) | exact own_up (Rd.keep (by with_reducible assumption)) (by with_reducible assumption))
local macro_rules | `(tactic| walk_at "fld") => `(tactic| first | with_reducible assumption | with_reducible exact fset_same | ((with_reducible refine (fset_other ?_).trans ?_); (first | decide | walk_at "fld"); (try walk_at "fld")))
local macro_rules | `(tactic| walk_at "fldN") => `(tactic| first | with_reducible assumption | with_reducible rfl | ((with_reducible refine (fset_other ?_).trans ?_); (first | decide | walk_at "fldN"); (try walk_at "fldN")))
local macro_rules | `(tactic| walk_at "ok") => `(tactic| first | with_reducible assumption | exact ok_sp (by decide) | exact ok_sc (by decide))
local macro_rules | `(tactic| walk_at "s") => `(tactic| first
  | ((with_reducible refine' ld ?F ?hx ?_ ?hd); (case F => walk_at "fr"); (case hx => walk_at "at"); (case hd => decide))
  | ((with_reducible refine kint ?_); intro _ _)
  | (with_reducible refine knone ?_) | (with_reducible refine kbool ?_) | ((with_reducible refine kstr ?_); intro _ _)
  | (with_reducible refine wpAny_BinOp ?_)
  | ((with_reducible refine i_add ?_); intro _ _) | ((with_reducible refine i_sub ?_); intro _ _)
  | ((with_reducible refine i_mod ?hb ?_); (case hb => omega); intro _ _)
  | ((with_reducible refine i_div ?hb ?hy ?_); (case hb => omega); (case hy => exact PyProof.noPylong_small (by omega)); intro _ _)
  | ((with_reducible refine i_mul ?hm ?_); (case hm => first | exact PySem.IntMulOk.of_left (PySem.intBits_le_64 (by omega) (by omega)) | exact PySem.IntMulOk.of_right (PySem.intBits_le_64 (by omega) (by omega))); intro _ _)
  | ((with_reducible refine t_chain ?_ ?hm); (case hm => with_unfolding_all rfl))
  | ((with_reducible refine e_chain ?_ ?hm); (case hm => with_unfolding_all rfl))
  | (with_reducible refine ch_link ?_) | (with_reducible refine ch_last ?_) | (with_reducible refine tc_link ?_) | (with_reducible refine tc_last ?_)
  | (with_reducible refine tests1 ?_) | (with_reducible refine tests0 ?_)
  | ((with_reducible refine t_cmp ?_ ?hm); (case hm => with_unfolding_all rfl))
  | ((with_reducible refine wpAny_Compare1 ?_ ?hm); (case hm => with_unfolding_all rfl))
  | (with_reducible refine c_lt ?_) | (with_reducible refine c_le ?_) | (with_reducible refine c_gt ?_) | (with_reducible refine c_ge ?_) | (with_reducible refine c_eq ?_) | (with_reducible refine c_ne ?_) | (with_reducible refine c_isn ?_)
  | (with_reducible refine c_tb ?_)
  | ((with_reducible refine e_slice ?_ ?hsl); (case hsl => intro _ _; rfl))
  | (with_reducible refine wpAny_UnaryOp ?_) | ((with_reducible refine i_neg ?_); intro _ _)
  | (with_reducible refine p_none ?_) | (with_reducible refine p_some ?_)
  | ((with_reducible refine e_sub ?_ ?hsl); (case hsl => intro _ _; rfl))
  | ((with_reducible refine' st ?F ?hp ?_); (case F => walk_at "fx"); (case hp => walk_at "put"); intro _ _ _)
  | ((with_reducible refine x_assign ?_ ?hs); (case hs => rfl))
  | (with_reducible refine x_ret ?_)
  | (with_reducible refine x_if1 ?_) | (with_reducible refine x_if ?_)
  | (with_reducible refine e_if ?_)
  | (with_reducible refine t_bool ?_) | (with_reducible refine t_and ?_) | (with_reducible refine t_or ?_) | (with_reducible refine t_and0 ?_) | (with_reducible refine t_or0 ?_) | (with_reducible refine t_not ?_)
  | (with_reducible refine e_or2 ?_) | (with_reducible refine e_and2 ?_)
  | (with_reducible refine Seq.nxt ?_) | (with_reducible refine Seq.ret ?_) | (with_reducible refine Seq.brk ?_) | (with_reducible refine Seq.cont ?_)
  | (with_reducible refine Back.r ?_) | (with_reducible refine Back.n ?_)
  | (with_reducible refine x_nil ?_)
  | ((with_reducible refine x_setsub ?_ ?hs); (case hs => rfl))
  | ((with_reducible refine b_abs ?_); intro _ _)
  | ((with_reducible refine' sub_l ?hl ?h0 ?hf ?hx ?_); (case hl => walk_at "isl"); (case h0 => omega); (case hf => omega); (case hx => first | with_reducible assumption | rfl))
  | ((with_reducible refine' sub_ln ?hl ?h0 ?h1 ?hf ?hx ?_); (case hl => walk_at "isl"); (case h0 => omega); (case h1 => omega); (case hf => omega); (case hx => with_reducible assumption))
  | ((with_reducible refine' sub_t ?hl ?h0 ?hf ?hx ?_); (case hl => walk_at "ist"); (case h0 => omega); (case hf => omega); (case hx => rfl))
  | ((with_reducible refine' set_l ?F ?hm ?hp ?h0 ?hf ?hn ?_); (case F => walk_at "fx"); (case hm => walk_at "at"); (case hp => walk_at "put"); (case h0 => omega); (case hf => omega); (case hn => (simp only [List.length_cons, List.length_nil]; omega)); intro _ _)
  | ((with_reducible refine' set_ln ?F ?hm ?hp ?h0 ?h1 ?hf ?_); (case F => walk_at "fx"); (case hm => walk_at "at"); (case hp => walk_at "put"); (case h0 => omega); (case h1 => omega); (case hf => omega); intro _ _)
  | ((with_reducible refine' b_len ?hl ?hz ?_); (case hl => walk_at "isl"); (case hz => walk_at "size"); intro _ _)
  | (with_reducible refine e_tup ?_) | (with_reducible refine e_lst ?_)
  | ((with_reducible refine i_cons ?_ ?he); (case he => rfl)) | (with_reducible refine i_nil ?_)
  | ((with_reducible refine' ldg ?F ?hx ?_ ?hk ?hd); (case F => walk_at "fr"); (case hx => walk_at "gl"); (case hk => rfl); (case hd => decide))
  | ((with_reducible refine' call1 ?F ?hx ?hk ?_ ?e1 ?hkd ?hdd); (case F => walk_at "fr"); (case hx => walk_at "gl"); (case hk => walk_at "kp"); (case e1 => intro _; rfl); (case hkd => rfl); (case hdd => decide))
  | ((with_reducible refine' call2 ?F ?hx ?hk ?_ ?e1 ?e2 ?hkd ?hdd); (case F => walk_at "fr"); (case hx => walk_at "gl"); (case hk => walk_at "kp"); (case e1 => intro _; rfl); (case e2 => intro _; rfl); (case hkd => rfl); (case hdd => decide))
  | ((with_reducible refine' call3 ?F ?hx ?hk ?_ ?e1 ?e2 ?e3 ?hkd ?hdd); (case F => walk_at "fr"); (case hx => walk_at "gl"); (case hk => walk_at "kp"); (case e1 => intro _; rfl); (case e2 => intro _; rfl); (case e3 => intro _; rfl); (case hkd => rfl); (case hdd => decide))
  | ((with_reducible refine' call4 ?F ?hx ?hk ?_ ?e1 ?e2 ?e3 ?e4 ?hkd ?hdd); (case F => walk_at "fr"); (case hx => walk_at "gl"); (case hk => walk_at "kp"); (case e1 => intro _; rfl); (case e2 => intro _; rfl); (case e3 => intro _; rfl); (case e4 => intro _; rfl); (case hkd => rfl); (case hdd => decide))
  | ((with_reducible refine' call5 ?F ?hx ?hk ?_ ?e1 ?e2 ?e3 ?e4 ?e5 ?hkd ?hdd); (case F => walk_at "fr"); (case hx => walk_at "gl"); (case hk => walk_at "kp"); (case e1 => intro _; rfl); (case e2 => intro _; rfl); (case e3 => intro _; rfl); (case e4 => intro _; rfl); (case e5 => intro _; rfl); (case hkd => rfl); (case hdd => decide))
  | ((with_reducible refine' n_tup ?F ?hz ?_); (case F => walk_at "fx"); (case hz => walk_at "size"); intro _ _ _ _ _)
  | ((with_reducible refine' n_lst ?F ?hz ?_); (case F => walk_at "fx"); (case hz => walk_at "size"); intro _ _ _ _ _)
  | ((with_reducible refine' as_tup ?R ?F ?ht ?hn ?hs ?_); (case R => assumption); (case F => walk_at "fx"); (case ht => walk_at "ist"); (case hn => rfl); (case hs => rfl); intro _ _ _)
  | ((with_reducible show wpAny _ _ (assignInOrder _ _) _ _ _); (first | refine as_o1 ?_ | refine as_o0 ?_))
  | (with_reducible refine as_n ?_)
  | ((with_reducible refine x_for ?_ ?hs); (case hs => intro _; rfl))
  | (with_reducible refine x_cont ?_)
  | ((with_reducible show wpAny _ _ (PySem.isTrue (Expr.Call _ _ _ _) _ _) _ _ _); ((refine t_val ?_ ?he); (case he => rfl)))
  | ((with_reducible show wpAny _ _ (PySem.isTrue (Expr.Subscript _ _ _) _ _) _ _ _); ((refine t_val ?_ ?he); (case he => rfl)))
  | ((with_reducible show wpAny _ _ (PySem.isTrue (Expr.Attribute _ _ _) _ _) _ _ _); ((refine t_val ?_ ?he); (case he => rfl)))
  | ((with_reducible show wpAny _ _ (PySem.isTrue (Expr.Name _ _) _ _) _ _ _); ((refine t_val ?_ ?he); (case he => rfl)))
  | (with_reducible refine Ways.yes rfl ?_) | (with_reducible refine Ways.no rfl ?_)
  | ((with_reducible refine x_tup ?_ ?hs ?hw); (case hs => rfl); (case hw => rfl))
  | ((with_reducible refine' b_max2F ?R ?F ?_); (case R => assumption); (case F => walk_at "fx"); intro _ _ _ _ _)
  | ((with_reducible refine' b_min2F ?R ?F ?_); (case R => assumption); (case F => walk_at "fx"); intro _ _ _ _ _)
  | ((with_reducible refine' x_swap ?q ?hs ?hw); (case hs => rfl); (case hw => rfl))
  | ((with_reducible refine' u_tup ?R ?F ?ht ?hm ?_); (case R => assumption); (case F => walk_at "fx"); (case ht => walk_at "ist"); (case hm => rfl); intro _ _ _)
  | (with_reducible refine bn ?_)
  | ((with_reducible refine x_app ?_ ?a1 ?a2 ?a3 ?a4 ?a5); (case a1 => rfl); (case a2 => rfl); (case a3 => rfl); (case a4 => rfl); (case a5 => rfl))
  | ((with_reducible refine x_expr ?_ ?hi ?hs); (case hi => rfl); (case hs => rfl))
  | ((with_reducible refine' m_inst ?F ?hx ?hm ?hg ?hi ?hf ?hn ?_); (case F => walk_at "fr"); (case hx => walk_at "inst"); (case hm => walk_at "own"); (case hg => exact pg_sc); (case hi => first | with_reducible exact mt_171 | with_reducible exact mt_178 | with_reducible exact mt_183 | with_reducible exact mt_190 | with_reducible exact mt_204 | with_reducible exact mt_218 | with_reducible exact mt_246); (case hf => kernel_rfl); (case hn => walk_at "fldN"))
  | (with_reducible refine wpAny_Not ?_)
  | ((with_reducible show ∃ _ _, _ ∧ PlainL _ _ _ ∧ _); (refine' ⟨_, _, rfl, Fx.plainL ?F ?hm, ?_⟩); (case F => walk_at "fx"); (case hm => walk_at "at"))
  | ((with_reducible refine' n_app ?F ?hm ?hp ?hz ?_); (case F => walk_at "fx"); (case hm => walk_at "at"); (case hp => walk_at "put"); (case hz => walk_at "size"); intro _ _)
  | ((with_reducible refine e_meth (pl := ?pl) ?_ ?he); (case he => rfl))
  | ((with_reducible refine' m_pop ?hd ?_); (case hd => walk_at "own"))
  | ((with_reducible refine' w_args ?hk ?_ ?he ?hp); (case hk => walk_at "kp"); (case he => rfl); (case hp => rfl))
  | ((with_reducible refine' w_args0 ?hk ?_); (case hk => walk_at "kp"))
  | ((with_reducible refine e_attr ?_ ?he); (case he => with_unfolding_all rfl))
  | ((with_reducible refine' g_attr ?F ?hx ?hm ?ok ?hf ?hv ?_); (case F => walk_at "fr"); (case hx => walk_at "inst"); (case hm => walk_at "own"); (case ok => walk_at "ok"); (case hf => walk_at "fld"); (case hv => rfl); intro _)
  | ((with_reducible refine x_setattr ?_ ?hs); (case hs => rfl))
  | (with_reducible refine x_augattr ?_)
  | ((with_reducible refine' s_attrN ?F ?hx ?hm ?hp ?ok ?hf ?hk ?_); (case F => walk_at "fx"); (case hx => walk_at "inst"); (case hm => walk_at "at"); (case hp => walk_at "put"); (case ok => walk_at "ok"); (case hf => walk_at "fldN"); (case hk => omega); intro _ _ _)
  | ((with_reducible refine' s_attr ?F ?hx ?hm ?hp ?ok ?hf ?hk ?_); (case F => walk_at "fx"); (case hx => walk_at "inst"); (case hm => walk_at "at"); (case hp => walk_at "put"); (case ok => walk_at "ok"); (case hf => walk_at "fld"); (case hk => omega); intro _ _ _)
  | ((with_reducible refine i_iadd ?_); intro _ _)
  | ((with_reducible refine' notIn_ints ?hl ?hi ?_); (case hl => walk_at "isl"); (case hi => with_reducible assumption))
  | ((with_reducible refine' sub_d ?hd ?hv ?_); (case hd => walk_at "own"); (case hv => with_reducible assumption); intro _)
  | ((with_reducible refine' set_d ?F ?hm ?hp ?hz ?_); (case F => walk_at "fx"); (case hm => walk_at "at"); (case hp => walk_at "put"); (case hz => omega); intro _ _ _)
  | ((with_reducible refine' e_dict ?F ?_); (case F => walk_at "fx"); intro _ _ _ _ _ _)
  | (refine ⟨by walk_at "kin", ?_⟩))
local macro_rules | `(tactic| walk_at "cfacts") => `(tactic| (
  (case hclos => with_unfolding_all rfl); (case hkind => rfl); (case hnames => decide +kernel); (case hs => intro _; rfl)))
local macro_rules | `(tactic| walk_at "e_comp") => `(tactic| ((with_reducible refine' e_comp ?_ ?hclos ?hkind ?hnames ?hs); walk_at "cfacts"))
local macro_rules | `(tactic| walk_at "x_comp") => `(tactic| ((with_reducible refine' x_comp ?_ ?hsw ?hclos ?hkind ?hnames ?hs); (case hsw => rfl); walk_at "cfacts"))
local macro_rules | `(tactic| walk_at "caps") => `(tactic| (intro v; repeat' (first | exact List.forall_mem_nil _ | (refine List.forall_mem_cons.mpr ⟨?_, ?_⟩; (first | exact .inl rfl | exact .inr ⟨rfl, _, rfl, rfl, rfl, At.mem (by walk_at "at")⟩)))))
local macro_rules | `(tactic| walk_at "facts") => `(tactic| (
  (case hcd => kernel_rfl); (case hkind => rfl); (case hcn => decide +kernel); (case hV => walk_at "vars"); (case hVn => (simp only [List.map_cons, List.map_nil]; decide))))
section PC1
open PySem PySem.W PyProof.Rows PySem.Calls
set_option Elab.async false
set_option linter.unusedVariables false
set_option maxRecDepth 100000
set_option maxHeartbeats 4000000
theorem g_PT {w : World} {mg mb : Str → Option Value} : ∃ t, GlobIs w mg mb "PACKET_THRESHOLD" (.int 3 t) := ⟨_, glob_K rfl⟩
section
variable {w : World} {mg mb : Str → Option Value} {prog : Program} {A : Around} {s : Shared} {h g₀ : Heap} {tk n : Nat}
theorem is_lost_ct {number sent_at largest now delay : Int} {t1 t2 t3 t4 t5 : Tok} (R : Room (n+1) A) (W : Wd w mg mb h) :
    wpAny (model prog w) A (call (.ref 28) [.int number t1, .int sent_at t2, .int largest t3, .int now t4, .int delay t5])
      (Post s h [] fun v _ => v = .bool (decide (largest ≥ number + 3) || decide (sent_at + delay ≤ now))) (fun _ _ => False) (upd s h tk) := by
  refine enter (V := [("number", some (.int number t1)), ("sent_at", some (.int sent_at t2)), ("largest", some (.int largest t3)), ("now", some (.int now t4)), ("delay", some (.int delay t5))]) (M := []) R W (Sub.rfl' _) rfl ?hcd rfl rfl rfl rfl rfl ?hkind ?hcn rfl rfl rfl ?hV ?hVn (List.forall_mem_nil _) List.nodup_nil ?q
  walk_at "facts"
  intro L h₁ tk₁ g _ hg _ _ _ F R'
  obtain ⟨tp, gPT⟩ := @g_PT w mg mb
  repeat walk_at "s"
  refine Ways.dec (fun hb => ?_) (fun hb => ?_)
  · repeat walk_at "s"
    exact Post.mk' (F.but hg) (by simp [hb])
  · repeat walk_at "s"
    exact Post.mk' (F.but hg) (by have : ¬ (largest ≥ number + 3) := hb; simp [this])

noncomputable def draw (ns : List Int) (spot : Nat) (many : Int) : Int := if h : spot < ns.length then (ns[spot].natAbs : Int) % many else (7 * spot + spot / 3 : Int) % many

theorem law_take_ct {l b : Addr} {vs : List Value} {ns : List Int} {spot c : Nat} {many : Int} {t0 t1 : Tok} (R : Room (n+1) A) (W : Wd w mg mb g₀) (k₀ : Sub g₀ h)
    (hl : IsL g₀ l vs) (hi : IntsAre vs ns) (hlen : ns.length ≤ 64) (hs : spot ≤ 64) (hm : 0 < many) (hb : h.get? b = some (listOf #[.ref l, .int spot t0] c)) (hb0 : g₀.get? b = none) :
    wpAny (model prog w) A (call (.ref 267) [.ref b, .int many t1])
      (Post s h [b] fun v h' => (∃ t, v = .int (draw ns spot many) t) ∧ ∃ t n, h'.get? b = some (listOf #[.ref l, .int (spot + 1 : Nat) t] n)) (fun _ _ => False) (upd s h tk) := by
  refine enter (V := [("box", some (.ref b)), ("many", some (.int many t1)), ("spot", none)]) (M := [(b, LstP [.ref l, .int spot t0])]) R W k₀ rfl ?hcd rfl rfl rfl rfl rfl ?hkind ?hcn rfl rfl rfl ?hV ?hVn ?hM (by simp) ?q
  walk_at "facts"
  case hM => intro p hp; rw [List.mem_singleton.mp hp]; exact ⟨⟨_, hb, _, rfl⟩, hb0⟩
  intro L h₁ tk₁ g kg hg _ _ _ F R'
  have hlg : IsL g l vs := hl.up kg
  have hz : vs.length ≤ 64 := by have := hi.length; omega
  repeat walk_at "s"
  have hlen' := hi.length
  refine Ways.dec (fun hb => ?_) (fun hb => ?_)
  · have hlt : spot < ns.length := by omega
    repeat walk_at "s"
    obtain ⟨tt, ht⟩ := hi.get spot ns[spot] (by simp [hlt])
    refine sub_l (x := .int ns[spot] tt) (by walk_at "isl") (by omega) (by omega) (by simpa using ht) ?_
    repeat walk_at "s"
    rename Fx _ _ _ _ _ _ _ _ => F
    refine Post.mk' (F.but hg) ⟨int_eq ?_, ?_⟩
    · simp only [draw, hlt, dif_pos]; rw [Int.fmod_eq_emod_of_nonneg _ (by omega)]
    · obtain ⟨o, e, n, rfl⟩ := F.own _ (.head _)
      exact ⟨_, n, e⟩
  · have hlt : ¬ spot < ns.length := by omega
    repeat walk_at "s"
    rename Fx _ _ _ _ _ _ _ _ => F
    refine Post.mk' (F.but hg) ⟨int_eq ?_, ?_⟩
    · simp only [draw, hlt, dif_neg, not_false_eq_true]; rw [Int.fmod_eq_emod_of_nonneg _ (by omega), Int.fdiv_eq_ediv_of_nonneg _ (by omega)]
    · obtain ⟨o, e, n, rfl⟩ := F.own _ (.head _)
      exact ⟨_, n, e⟩
end
end PC1
section PC2
open PySem PySem.W PyProof.Rows PySem.Calls
set_option Elab.async false
set_option linter.unusedVariables false
set_option maxRecDepth 100000
set_option maxHeartbeats 4000000
section
variable {w : World} {mg mb : Str → Option Value} {prog : Program} {A : Around} {s : Shared} {h g₀ : Heap} {tk n : Nat}
theorem is_between_ct {l : Addr} {vs : List Value} {ns : List Int} {low high : Int} {t1 t2 : Tok} (R : Room (n+2) A) (W : Wd w mg mb h) (hl : IsL h l vs) (hi : IntsAre vs ns) (hlen : ns.length ≤ 64) :
    wpAny (model prog w) A (call (.ref 40) [.ref l, .int low t1, .int high t2])
      (Post s h [] fun v _ => v = .bool (ns.any fun k => decide (low < k) && decide (k < high))) (fun _ _ => False) (upd s h tk) := by
  refine enter (V := [("numbers", some (.ref l)), ("low", some (.int low t1)), ("high", some (.int high t2))]) (M := []) R W (Sub.rfl' _) rfl ?hcd rfl rfl rfl rfl rfl ?hkind ?hcn rfl rfl rfl ?hV ?hVn (List.forall_mem_nil _) List.nodup_nil ?q
  walk_at "facts"
  intro L h₁ tk₁ g kg hg _ _ _ F R'
  have hlg : IsL g l vs := hl.up kg
  repeat walk_at "s"
  walk_at "e_comp"
  repeat walk_at "s"
  rename Fx _ _ _ _ _ _ _ _ => F
  refine compE_s (fun i ys => ys = (ns.take i).map fun k => Value.bool (decide (low < k) && decide (k < high))) (fun v => [("number", some v), ("low", some (.int low t1)), ("high", some (.int high t2))]) R' F (src_l R'.handled hlg F.keep) (by have := hi.length; omega) (by walk_at "caps") (by simp) (fun i ys e _ => by rw [e]; simp; omega) ?turn ?fin (by decide +kernel) rfl rfl
  case turn =>
    rintro C i v ys h₃ tk₃ hin hv rfl k₃ G
    obtain ⟨k, hk⟩ : ∃ k, ns[i]? = some k := ⟨ns[i]'(by have := hi.length; omega), by simp⟩
    obtain ⟨t, ht⟩ := hi.get i k hk
    rw [ht] at hv; cases hv
    have step : ∀ b, (ns.take (i + 1)).map (fun k => Value.bool (decide (low < k) && decide (k < high))) = (ns.take i).map (fun k => Value.bool (decide (low < k) && decide (k < high))) ++ [.bool b] ↔ b = (decide (low < k) && decide (k < high)) := by
      intro b; rw [List.take_add_one, hk]; simp [eq_comm]
    repeat walk_at "s"
    try refine Ways.yes rfl ?_
    repeat walk_at "s"
    refine Ways.dec (fun hb => ?_) (fun hb => ?_)
    · repeat walk_at "s"
      exact PEnd.mk' (Sub.rfl' _) (((step _).mpr (by simp [hb])).symm)
    · exact PEnd.mk' (Sub.rfl' _) (((step _).mpr (by simp [hb])).symm)
  case fin =>
    rintro D ys h' tk' rfl k' hD F'
    have hlen' := hi.length
    rw [hlen', List.take_length] at F'
    refine ⟨(kin F'.toRd), ?_⟩
    refine b_any (ns.map fun k => decide (low < k) && decide (k < high)) R' (F'.isL .head) (by simp) fun h₂ tk₂ k₂ => ?_
    repeat walk_at "s"
    refine Post.mk' ((F'.ext k₂).but hg) ?_
    simp [List.any_map, Function.comp_def]
end
end PC2
section PC3
open PySem PySem.W PyProof.Rows PySem.Calls
set_option Elab.async false
set_option linter.unusedVariables false
set_option maxRecDepth 100000
set_option maxHeartbeats 4000000
theorem Post.use {prog : Program} {w : World} {A : Around} {E : Value → Shared → Prop} {s : Shared} {h : Heap} {tk : Nat} {as : List Addr} {P : Value → Heap → Prop} {Q : Value → Shared → Prop} {c : Sem Value} (x : wpAny (model prog w) A c (Post s h as P) (fun _ _ => False) (upd s h tk))
    (q : ∀ v h' tk', But as h h' → P v h' → Q v (upd s h' tk')) : wpAny (model prog w) A c Q E (upd s h tk) :=
  wpAny_mono x (fun v _ ⟨h', tk', e, k, p⟩ => e ▸ q v h' tk' k p) fun _ _ e => e.elim

noncomputable def persB (ac : List Int) (n t : Int) : Option (Int × Int) → Int
  | none => t
  | some (b, l) => if (ac.any fun k => decide (l < k) && decide (k < n)) = true then t else b
noncomputable def persGo (ac : List Int) (first span : Int) : List (Int × Int) → Option (Int × Int) → Bool
  | [], _ => false
  | p :: r, st => if p.2 ≤ first then persGo ac first span r st else
      if span < p.2 - persB ac p.1 p.2 st then true else persGo ac first span r (some (persB ac p.1 p.2 st, p.1))
theorem persGo_cons (ac : List Int) (first span n t : Int) (r : List (Int × Int)) (st : Option (Int × Int)) : persGo ac first span ((n, t) :: r) st = if t ≤ first then persGo ac first span r st else
      if span < t - persB ac n t st then true else persGo ac first span r (some (persB ac n t st, n)) := rfl
noncomputable def stV : Option (Int × Int) → Value → Value → Prop
  | none, b, l => b = .none ∧ l = .none
  | some (b, l), vb, vl => (∃ t, vb = .int b t) ∧ ∃ t, vl = .int l t
theorem Tups.get {α : Type} {G : α → List Value → Prop} {h : Heap} {ds : List α} {vs : List Value} (x : Tups G ds vs h) : ∀ (i : Nat) (v : Value), vs[i]? = some v → ∃ d T us, ds[i]? = some d ∧ v = .ref T ∧ IsT h T us ∧ G d us := by
  induction x with
  | nil => intro i v hi; cases hi
  | cons a _ ih =>
    intro i v hi
    cases i with
    | zero => obtain ⟨T, us, e, x, y⟩ := a; cases hi; exact ⟨_, T, us, rfl, e, x, y⟩
    | succ i => exact ih i v hi
theorem Tups.rev {α : Type} {G : α → List Value → Prop} {h : Heap} {ds : List α} {vs : List Value} (x : Tups G ds vs h) : Tups G ds.reverse vs.reverse h := by
  induction x with
  | nil => exact .nil
  | cons a _ ih => simp only [List.reverse_cons]; exact Paired.snoc ih a
section
variable {w : World} {mg mb : Str → Option Value} {prog : Program} {A : Around} {s : Shared} {h g₀ : Heap} {tk n : Nat}
theorem is_persistent_no {v1 v2 v3 : Value} (R : Room (n+1) A) (W : Wd w mg mb h) :
    wpAny (model prog w) A (call (.ref 47) [v1, v2, .none, v3]) (Post s h [] fun v _ => v = .bool false) (fun _ _ => False) (upd s h tk) := by
  refine enter (V := [("first_at", some .none)]) (M := []) R W (Sub.rfl' _) rfl ?hcd rfl rfl rfl rfl rfl ?hkind ?hcn rfl rfl rfl ?hV ?hVn (List.forall_mem_nil _) List.nodup_nil ?q
  walk_at "facts"
  intro L h₁ tk₁ g kg hg _ _ _ F R'
  repeat walk_at "s"
  try refine Ways.yes rfl ?_
  repeat walk_at "s"
  exact Post.mk' (F.but hg) rfl

inductive PeJ (l la : Addr) (first span : Int) (t1 t2 : Tok) (ac : List Int) (ds' : List (Int × Int)) (i : Nat) (g : Heap) (V : List (Str × Option Value)) (M : List (Addr × (Obj → Prop))) : Prop
  | mk (aM : Addr) (PM : Obj → Prop) (eM : M = [(aM, PM)]) (st : Option (Int × Int)) (vb vl : Value) (v1 v2 : Option Value) (hst : stV st vb vl) (eV : V = ([("lost", some (.ref l)), ("acked", some (.ref la)), ("first_at", some (.int first t1)), ("span", some (.int span t2)), ("begin", some vb), ("last", some vl), ("number", v1), ("sent_at", v2)] : List (Str × Option Value))) (he : persGo ac first span ds' none = persGo ac first span (ds'.drop i) st)
theorem is_persistent_ct {l la : Addr} {vs va : List Value} {ds : List (Int × Int)} {ac : List Int} {first span : Int} {t1 t2 : Tok} (up : Bool) (R : Room (n+4) A) (W : Wd w mg mb h)
    (hl : IsL h l vs) (ht : Tups PrG ds vs h) (h12 : ds.length < 12) (hd : ds.Pairwise fun a b => if up then a.1 < b.1 else b.1 < a.1) (hla : IsL h la va) (hi' : IntsAre va ac) (hlen : ac.length ≤ 64) :
    wpAny (model prog w) A (call (.ref 47) [.ref l, .ref la, .int first t1, .int span t2])
      (Post s h [] fun v _ => v = .bool (persGo ac first span (if up then ds else ds.reverse) none)) (fun _ _ => False) (upd s h tk) := by
  refine enter (V := [("lost", some (.ref l)), ("acked", some (.ref la)), ("first_at", some (.int first t1)), ("span", some (.int span t2)), ("begin", none), ("last", none), ("number", none), ("sent_at", none)]) (M := []) R W (Sub.rfl' _) rfl ?hcd rfl rfl rfl rfl rfl ?hkind ?hcn rfl rfl rfl ?hV ?hVn (List.forall_mem_nil _) List.nodup_nil ?q
  walk_at "facts"
  intro L h₁ tk₁ g kg hg _ _ _ F R'
  have hlg := hl.up kg
  have hlag := hla.up kg
  have htg := ht.up kg
  repeat walk_at "s"
  try refine Ways.no rfl ?_
  try refine x_tup ?_
  repeat walk_at "s"
  rename Fx _ _ _ _ _ _ _ _ => F
  refine b_sortp up (hlg.up F.keep) (htg.up F.keep) h12 hd fun a h₂ tk₂ c k₂ ha ho => ?_
  have F := F.adopt (P := LstP (if up then vs else vs.reverse)) k₂ ha ho ⟨c, rfl⟩
  refine Fx.frzc F ?_
  rintro g' o' kg' ho' ⟨c', rfl⟩ F
  have hlen' : (if up then ds else ds.reverse).length = (if up then vs else vs.reverse).length := by cases up <;> simp [Paired.length ht]
  have hts : Tups PrG (if up then ds else ds.reverse) (if up then vs else vs.reverse) g' := by
    cases up
    · exact (htg.up kg').rev
    · exact htg.up kg'
  have hla' := hlag.up kg'
  generalize (if up then ds else ds.reverse) = ds' at hlen' hts ⊢
  generalize (if up then vs else vs.reverse) = vs' at hlen' hts ho' ⊢
  have hsrc : IsL g' a vs' := ⟨_, ho', rfl, c', rfl⟩
  refine forL (PeJ l la first span t1 t2 ac ds')
    F (src_l R'.handled hsrc F.keep) ⟨_, _, rfl, none, _, _, _, _, ⟨rfl, rfl⟩, rfl, rfl⟩ ?turn ?done
  case done =>
    rintro g₁ V₁ M₁ h₃ tk₃ ⟨aM, PM, rfl, st, vb, vl, v1, v2, hst, rfl, he⟩ k₃ F₃
    repeat walk_at "s"
    rw [← hlen', List.drop_length] at he
    exact Post.mk' (F₃.toRd.but fun b o n e => k₃ _ _ (kg' _ _ (hg b o n e))) (by rw [he]; rfl)
  case turn =>
    rintro i v g₁ V₁ M₁ h₃ tk₃ I oI hi hv ⟨aM, PM, rfl, st, vb, vl, v1, v2, hst, rfl, he⟩ k₃ F₃
    obtain ⟨⟨dn, dt⟩, T, us, hd1, rfl, hT, tn, tt, rfl⟩ := hts.get i v hv
    have hdrop : ds'.drop i = (dn, dt) :: ds'.drop (i + 1) := by
      obtain ⟨hlt, e⟩ := List.getElem?_eq_some_iff.mp hd1
      rw [← e]; exact List.drop_eq_getElem_cons hlt
    rw [hdrop] at he
    have hT₁ := hT.up k₃
    have hla₁ := hla'.up k₃
    repeat walk_at "s"
    have rtrn : ∀ env V M hx tkx, Fx w mg mb g₁ env V M hx → persGo ac first span ds' none = true → Post s h [] (fun v x => v = Value.bool (persGo ac first span ds' none)) (.bool true) (upd s hx tkx) := fun env V M hx tkx F₅ e =>
      Post.mk' (F₅.toRd.but fun b o n e => k₃ _ _ (kg' _ _ (hg b o n e))) (by rw [e])
    refine Ways.dec (fun hb => ?_) (fun hb => ?_)
    · repeat walk_at "s"
      rename Fx _ _ _ _ _ _ _ _ => F₄
      refine TurnE.cnt F₄ (Sub.rfl' _) ⟨aM, PM, rfl, st, vb, vl, _, _, hst, rfl, ?_⟩
      rw [he, persGo_cons, if_pos hb]
    · rw [persGo_cons, if_neg hb] at he
      cases st with
      | none =>
        obtain ⟨rfl, rfl⟩ := hst
        repeat walk_at "s"
        try refine Ways.yes rfl ?_
        repeat walk_at "s"
        try refine Ways.yes rfl ?_
        repeat walk_at "s"
        refine Ways.dec (fun hc => ?_) (fun hc => ?_)
        · repeat walk_at "s"
          refine TurnE.rt ?_
          rename Fx _ _ _ _ _ _ _ _ => F₄
          exact rtrn _ _ _ _ _ F₄ (by rw [he]; exact if_pos hc)
        · repeat walk_at "s"
          rename Fx _ _ _ _ _ _ _ _ => F₄
          refine TurnE.nxt F₄ (Sub.rfl' _) ⟨aM, PM, rfl, some (dt, dn), _, _, _, _, ⟨⟨_, rfl⟩, _, rfl⟩, rfl, ?_⟩
          rw [he]; exact if_neg hc
      | some bl =>
        obtain ⟨b, lb⟩ := bl
        obtain ⟨⟨tb, rfl⟩, tl, rfl⟩ := hst
        repeat walk_at "s"
        try refine Ways.no rfl ?_
        repeat walk_at "s"
        try refine t_val ?_
        repeat walk_at "s"
        rename Fx _ _ _ _ _ _ _ _ => F₄
        refine Post.use (is_between_ct (n := n) (R'.less (Nat.le_succ _)) F₄.wdh (hla₁.up F₄.keep) hi' hlen) fun v h₆ tk₆ k₆ e₆ => ?_
        subst e₆
        have F₄ := F₄.ext k₆.sub
        repeat walk_at "s"
        refine Ways.of (fun hk => ?_) (fun hk => ?_)
        · have hB : persB ac dn dt (some (b, lb)) = dt := if_pos hk
          rw [hB] at he
          try refine Ways.yes rfl ?_
          repeat walk_at "s"
          refine Ways.dec (fun hc => ?_) (fun hc => ?_)
          · repeat walk_at "s"
            refine TurnE.rt ?_
            rename Fx _ _ _ _ _ _ _ _ => F₄
            exact rtrn _ _ _ _ _ F₄ (by rw [he]; exact if_pos hc)
          · repeat walk_at "s"
            rename Fx _ _ _ _ _ _ _ _ => F₄
            refine TurnE.nxt F₄ (Sub.rfl' _) ⟨aM, PM, rfl, some (dt, dn), _, _, _, _, ⟨⟨_, rfl⟩, _, rfl⟩, rfl, ?_⟩
            rw [he]; exact if_neg hc
        · have hB : persB ac dn dt (some (b, lb)) = b := if_neg (by rw [hk]; simp)
          rw [hB] at he
          repeat walk_at "s"
          try refine Ways.no rfl ?_
          repeat walk_at "s"
          refine Ways.dec (fun hc => ?_) (fun hc => ?_)
          · repeat walk_at "s"
            refine TurnE.rt ?_
            rename Fx _ _ _ _ _ _ _ _ => F₄
            exact rtrn _ _ _ _ _ F₄ (by rw [he]; exact if_pos hc)
          · repeat walk_at "s"
            rename Fx _ _ _ _ _ _ _ _ => F₄
            refine TurnE.nxt F₄ (Sub.rfl' _) ⟨aM, PM, rfl, some (b, dn), _, _, _, _, ⟨⟨_, rfl⟩, _, rfl⟩, rfl, ?_⟩
            rw [he]; exact if_neg hc
end
end PC3
section PC4
open PySem PySem.W PyProof.Rows PySem.Calls
set_option Elab.async false
set_option linter.unusedVariables false
set_option maxRecDepth 100000
set_option maxHeartbeats 4000000
theorem Room.cl64 {n : Nat} {A : Around} (x : Room n A) : A.units + 64 < cLine := by have := x.units; show A.units + 64 < 9900; omega
theorem ints_snoc {vs : List Value} {ns : List Int} {n : Int} {t : Tok} (h : IntsAre vs ns) : IntsAre (vs ++ [.int n t]) (ns ++ [n]) := by
  induction h with
  | nil => exact .cons _ _ .nil
  | cons _ _ _ ih => exact .cons _ _ ih
noncomputable def wIn (came : List Int) (first : Int) (one : Int × Int) (f : Int) (oth : Int × Int) : Int :=
  if one.1 < oth.1 then if first < one.2 then if (came.filter fun k => decide (one.1 < k) && decide (k < oth.1)) = [] then max f (oth.2 - one.2) else f else f else f
noncomputable def widest (came : List Int) (first : Int) (ds : List (Int × Int)) : Int := ds.foldl (fun f one => ds.foldl (wIn came first one) f) 0
theorem foldl_take {α β : Type} (f : β → α → β) (b : β) (l : List α) (i : Nat) (a : α) (h : l[i]? = some a) : (l.take (i + 1)).foldl f b = f ((l.take i).foldl f b) a := by
  rw [List.take_add_one, h]; simp
section
variable {w : World} {mg mb : Str → Option Value} {prog : Program} {A : Around} {s : Shared} {h g₀ : Heap} {tk n : Nat}
inductive WiJ (l la : Addr) (first : Int) (t1 : Tok) (ac : List Int) (ds : List (Int × Int)) (i : Nat) (g : Heap) (V : List (Str × Option Value)) (M : List (Addr × (Obj → Prop))) : Prop
  | mk (eM : M = []) (f : Int) (t : Tok) (v1 v2 v3 v4 : Option Value) (hf : f = (ds.take i).foldl (fun f one => ds.foldl (wIn ac first one) f) 0) (eV : V = ([("pairs", some (.ref l)), ("came", some (.ref la)), ("first", some (.int first t1)), ("found", some (.int f t)), ("one", v1), ("begun", v2), ("other", v3), ("ended", v4)] : List (Str × Option Value)))
inductive WjJ (I l la : Addr) (oI : Obj) (first f₀ n1 b1 : Int) (t1 tn tb : Tok) (ac : List Int) (ds : List (Int × Int)) (j : Nat) (g : Heap) (V : List (Str × Option Value)) (M : List (Addr × (Obj → Prop))) : Prop
  | mk (eM : M = [(I, (· = oI))]) (f : Int) (t : Tok) (v3 v4 : Option Value) (hf : f = (ds.take j).foldl (wIn ac first (n1, b1)) f₀) (eV : V = ([("pairs", some (.ref l)), ("came", some (.ref la)), ("first", some (.int first t1)), ("found", some (.int f t)), ("one", some (.int n1 tn)), ("begun", some (.int b1 tb)), ("other", v3), ("ended", v4)] : List (Str × Option Value)))
theorem law_widest_ct {l la : Addr} {vs va : List Value} {ds : List (Int × Int)} {ac : List Int} {first : Int} {t1 : Tok} (R : Room (n+4) A) (W : Wd w mg mb h)
    (hl : IsL h l vs) (ht : Tups PrG ds vs h) (h12 : ds.length < 12) (hla : IsL h la va) (hi' : IntsAre va ac) (hlen : ac.length ≤ 64) :
    wpAny (model prog w) A (call (.ref 272) [.ref l, .ref la, .int first t1])
      (Post s h [] fun v _ => ∃ t, v = .int (widest ac first ds) t) (fun _ _ => False) (upd s h tk) := by
  refine enter (V := [("pairs", some (.ref l)), ("came", some (.ref la)), ("first", some (.int first t1)), ("found", none), ("one", none), ("begun", none), ("other", none), ("ended", none)]) (M := []) R W (Sub.rfl' _) rfl ?hcd rfl rfl rfl rfl rfl ?hkind ?hcn rfl rfl rfl ?hV ?hVn (List.forall_mem_nil _) List.nodup_nil ?q
  walk_at "facts"
  intro L h₁ tk₁ g kg hg _ _ _ F R'
  have hlg := hl.up kg
  have hlag := hla.up kg
  have htg := ht.up kg
  repeat walk_at "s"
  rename Fx _ _ _ _ _ _ _ _ => F
  have hlen' : ds.length = vs.length := Paired.length ht
  refine forL (WiJ l la first t1 ac ds)
    F (src_l R'.handled hlg F.keep) ⟨rfl, _, _, _, _, _, _, rfl, rfl⟩ ?turn ?done
  case done =>
    rintro g₁ V₁ M₁ h₃ tk₃ ⟨rfl, f, t, v1, v2, v3, v4, hf, rfl⟩ k₃ F₃
    repeat walk_at "s"
    refine Post.mk' (F₃.toRd.but fun b o n e => k₃ _ _ (hg b o n e)) ⟨t, ?_⟩
    rw [hf, ← hlen', List.take_length]; rfl
  case turn =>
    rintro i v g₁ V₁ M₁ h₃ tk₃ I oI hi hv ⟨rfl, f₀, t, v1, v2, v3, v4, hf₀, rfl⟩ k₃ F₃
    obtain ⟨⟨n1, b1⟩, T, us, hd1, rfl, hT, tn, tt, rfl⟩ := htg.get i v hv
    have hT₁ := hT.up k₃
    repeat walk_at "s"
    rename Fx _ _ _ _ _ _ _ _ => F₄
    refine forL (WjJ I l la oI first f₀ n1 b1 t1 tn tt ac ds)
      F₄ (src_l R'.handled (hlg.up k₃) F₄.keep) ⟨rfl, _, _, _, _, rfl, rfl⟩ ?turn2 ?done2
    case done2 =>
      rintro g₂ V₂ M₂ h₅ tk₅ ⟨rfl, f, t, v3, v4, hf, rfl⟩ k₅ F₅
      repeat walk_at "s"
      refine TurnE.nxt F₅ k₅ ⟨rfl, _, _, _, _, _, _, ?_, rfl⟩
      rw [hf, foldl_take _ _ _ _ _ hd1, ← hf₀, ← hlen', List.take_length]
    case turn2 =>
      rintro j v g₂ V₂ M₂ h₅ tk₅ I₂ oI₂ hj hv₂ ⟨rfl, f, t, v3, v4, hf, rfl⟩ k₅ F₅
      obtain ⟨⟨n2, b2⟩, T₂, us₂, hd2, rfl, hT₂, tn₂, tt₂, rfl⟩ := htg.get j v hv₂
      have hT₂ := hT₂.up (k₃.trans k₅)
      have hla₂ := hlag.up (k₃.trans k₅)
      have hstep : (ds.take (j + 1)).foldl (wIn ac first (n1, b1)) f₀ = wIn ac first (n1, b1) f (n2, b2) := by rw [foldl_take _ _ _ _ _ hd2, ← hf]
      rw [wIn] at hstep
      repeat walk_at "s"
      refine Ways.dec (fun hb => ?_) (fun hb => ?_)
      · rw [if_pos hb] at hstep
        repeat walk_at "s"
        refine Ways.dec (fun hc => ?_) (fun hc => ?_)
        · rw [if_pos hc] at hstep
          repeat walk_at "s"
          walk_at "e_comp"
          repeat walk_at "s"
          rename Fx _ _ _ _ _ _ _ _ => F₆
          refine compE_s (fun i ys => IntsAre ys ((ac.take i).filter fun k => decide (n1 < k) && decide (k < n2))) (fun v => [("number", some v), ("one", some (.int n1 tn)), ("other", some (.int n2 tn₂))]) R' F₆ (src_l R'.handled hla₂ F₆.keep) (by have := hi'.length; omega) (by walk_at "caps") .nil (fun i ys e _ => by rw [e.length]; refine Nat.le_trans (List.length_filter_le _ _) ?_; simp; omega) ?turnc ?finc (by decide +kernel) rfl rfl
          case turnc =>
            rintro C i v ys h₃ tk₃ hin hv hO k₃ G
            obtain ⟨k, hk⟩ : ∃ k, ac[i]? = some k := ⟨ac[i]'(by have := hi'.length; omega), by simp⟩
            obtain ⟨t, ht⟩ := hi'.get i k hk
            rw [ht] at hv; cases hv
            have e1 : ((ac.take (i + 1)).filter fun k => decide (n1 < k) && decide (k < n2)) = ((ac.take i).filter fun k => decide (n1 < k) && decide (k < n2)) ++ ([k].filter fun k => decide (n1 < k) && decide (k < n2)) := by
              rw [List.take_add_one, hk, List.filter_append]; rfl
            rw [e1]
            repeat walk_at "s"
            refine Ways.dec (fun hb => ?_) (fun hb => ?_)
            · repeat walk_at "s"
              refine Ways.dec (fun hc => ?_) (fun hc => ?_)
              · repeat walk_at "s"
                exact PEnd.mk' (Sub.rfl' _) (by simp only [List.filter_cons, hb, hc, decide_true, Bool.and_self, if_true, List.filter_nil]; exact ints_snoc hO)
              · repeat walk_at "s"
                exact PEnd.mk' (Sub.rfl' _) (by simpa [List.filter_cons, hc] using hO)
            · exact PEnd.mk' (Sub.rfl' _) (by simpa [List.filter_cons, hb] using hO)
          case finc =>
            rintro D ys h' tk' hO k' hD F₇
            rw [hi'.length, List.take_length] at hO
            repeat walk_at "s"
            rename Fx _ _ _ _ _ _ _ _ => F₇
            refine eq_intsK (F₇.isL (.tail .head)) hO (F₇.isL .head) .nil R'.cl64 ?_
            repeat walk_at "s"
            refine Ways.dec (fun he => ?_) (fun he => ?_)
            · rw [if_pos he] at hstep
              repeat walk_at "s"
              rename Fx _ _ _ _ _ _ _ _ => F₈
              refine TurnE.nxt (F₈.forget (M' := [(I₂, (· = oI₂)), (I, (· = oI))]) (by simp)) (Sub.rfl' _) ⟨rfl, _, _, _, _, hstep.symm, rfl⟩
            · rw [if_neg he] at hstep
              repeat walk_at "s"
              refine TurnE.nxt (F₇.forget (M' := [(I₂, (· = oI₂)), (I, (· = oI))]) (by simp)) (Sub.rfl' _) ⟨rfl, _, _, _, _, hstep.symm, rfl⟩
        · rw [if_neg hc] at hstep
          repeat walk_at "s"
          rename Fx _ _ _ _ _ _ _ _ => F₆
          refine TurnE.nxt F₆ (Sub.rfl' _) ⟨rfl, _, _, _, _, hstep.symm, rfl⟩
      · rw [if_neg hb] at hstep
        repeat walk_at "s"
        rename Fx _ _ _ _ _ _ _ _ => F₆
        refine TurnE.nxt F₆ (Sub.rfl' _) ⟨rfl, _, _, _, _, hstep.symm, rfl⟩
end
end PC4
section PC5
open PySem PySem.W PyProof.Rows PySem.Calls
set_option Elab.async false
set_option linter.unusedVariables false
set_option maxRecDepth 100000
set_option maxHeartbeats 4000000
noncomputable def just (ac : List Int) (first wd : Int) (ds : List (Int × Int)) : Bool := !persGo ac first wd ds none && (decide (wd ≤ 0) || persGo ac first (wd - 1) ds none)
section
variable {w : World} {mg mb : Str → Option Value} {prog : Program} {A : Around} {s : Shared} {h g₀ : Heap} {tk n : Nat}
inductive JuJ (l la : Addr) (first wd : Int) (t1 t2 : Tok) (ac : List Int) (ds : List (Int × Int)) (i : Nat) (g : Heap) (V : List (Str × Option Value)) (M : List (Addr × (Obj → Prop))) : Prop
  | mk (eM : M = []) (v : Option Value) (eV : V = ([("pairs", some (.ref l)), ("between", some (.ref la)), ("first", some (.int first t1)), ("widest", some (.int wd t2)), ("some", v)] : List (Str × Option Value))) (hj : 0 < i → just ac first wd ds = true)
inductive JuA (g : Heap) (ds : List (Int × Int)) (v : Value) : Prop
  | mk (lx : Addr) (up : Bool) (vs' : List Value) (ds' : List (Int × Int)) (e : v = .ref lx) (hlx : IsL g lx vs') (htx : Tups PrG ds' vs' g) (hdx : ds'.Pairwise (fun a b => if up then a.1 < b.1 else b.1 < a.1)) (hlen : ds'.length = ds.length) (e' : (if up then ds' else ds'.reverse) = ds)
theorem law_is_just_ct {l la : Addr} {vs va : List Value} {ds : List (Int × Int)} {ac : List Int} {first wd : Int} {t1 t2 : Tok} (R : Room (n+6) A) (W : Wd w mg mb h)
    (hl : IsL h l vs) (ht : Tups PrG ds vs h) (h12 : ds.length < 12) (hd : ds.Pairwise fun a b => a.1 < b.1) (hla : IsL h la va) (hi' : IntsAre va ac) (hlen : ac.length ≤ 64) :
    wpAny (model prog w) A (call (.ref 279) [.ref l, .ref la, .int first t1, .int wd t2])
      (Post s h [] fun v _ => v = .bool (just ac first wd ds)) (fun _ _ => False) (upd s h tk) := by
  refine enter (V := [("pairs", some (.ref l)), ("between", some (.ref la)), ("first", some (.int first t1)), ("widest", some (.int wd t2)), ("some", none)]) (M := []) R W (Sub.rfl' _) rfl ?hcd rfl rfl rfl rfl rfl ?hkind ?hcn rfl rfl rfl ?hV ?hVn (List.forall_mem_nil _) List.nodup_nil ?q
  walk_at "facts"
  intro L h₁ tk₁ g kg hg _ _ _ F R'
  have hlg := hl.up kg
  have hlag := hla.up kg
  have htg := ht.up kg
  have hvl : vs.length = ds.length := (Paired.length ht).symm
  repeat walk_at "s"
  rename Fx _ _ _ _ _ _ _ _ => F
  refine slc F (hlg.up F.keep) (by rw [sizeLine_eq]; omega) .none .none (.int _ _) (by decide) (krv_pick _) fun lr h₂ F₂ hlr k₂ => ?_
  refine Fx.frzc F₂ ?_
  rintro g₂ o' kg' ho' ⟨c', rfl⟩ F₂
  have hlr₂ : IsL g₂ lr vs.reverse := ⟨_, ho', rfl, c', by simp⟩
  repeat walk_at "s"
  rename Fx _ _ _ _ _ _ _ _ => F₃
  refine Fx.frzc F₃ ?_
  rintro g₃ o₃ kg₃ ho₃ hT F₃
  have hT := TupP.isT ho₃ hT
  have hlr₃ := hlr₂.up kg₃
  have kgg : Sub g g₃ := kg'.trans kg₃
  have htr : Tups PrG ds.reverse vs.reverse g₃ := (htg.up kgg).rev
  refine forL (JuJ l la first wd t1 t2 ac ds)
    F₃ (src_t R'.handled hT F₃.keep) ⟨rfl, _, rfl, fun h => absurd h (by omega)⟩ ?turn ?done
  case done =>
    rintro g₁ V₁ M₁ h₃ tk₃ ⟨rfl, v, rfl, hj⟩ k₃ F₃
    repeat walk_at "s"
    refine Post.mk' (F₃.toRd.but fun b o n e => k₃ _ _ (kgg _ _ (hg b o n e))) ?_
    rw [hj (by simp)]
  case turn =>
    rintro i v g₁ V₁ M₁ h₃ tk₃ I oI hi hv ⟨rfl, vv, rfl, hj⟩ k₃ F₃
    obtain ⟨lx, up, vs', ds', rfl, hlx, htx, hdx, hlen', e'⟩ : JuA g₁ ds v := by
      match i, hi, hv with
      | 0, _, e => cases e; exact ⟨l, true, vs, ds, rfl, hlg.up (kgg.trans k₃), htg.up (kgg.trans k₃), by simpa using hd, rfl, rfl⟩
      | 1, _, e => cases e; exact ⟨lr, false, vs.reverse, ds.reverse, rfl, hlr₃.up k₃, htr.up k₃, by simpa using List.pairwise_reverse.mpr hd, by simp, by simp⟩
    repeat walk_at "s"
    rename Fx _ _ _ _ _ _ _ _ => F₄
    refine Post.use (is_persistent_ct (n := n) up (R'.less (by omega)) F₄.wdh (hlx.up F₄.keep) (htx.up F₄.keep) (by omega) hdx ((hlag.up (kgg.trans k₃)).up F₄.keep) hi' hlen) fun v h₆ tk₆ k₆ e₆ => ?_
    subst e₆
    rw [e']
    have F₄ := F₄.ext k₆.sub
    repeat walk_at "s"
    refine Ways.of (fun hb => ?_) (fun hb => ?_)
    · repeat walk_at "s"
      refine TurnE.rt (Back.r ?_)
      refine Post.mk' (F₄.toRd.but fun b o n e => k₃ _ _ (kgg _ _ (hg b o n e))) ?_
      rw [just, hb]; rfl
    · repeat walk_at "s"
      rename Fx _ _ _ _ _ _ _ _ => F₄
      refine Post.use (is_persistent_no (n := n) (R'.less (by omega)) F₄.wdh) fun v h₆ tk₆ k₆ e₆ => ?_
      subst e₆
      have F₄ := F₄.ext k₆.sub
      repeat walk_at "s"
      refine Ways.dec (fun hw => ?_) (fun hw => ?_)
      · repeat walk_at "s"
        refine Post.use (is_persistent_ct (n := n) up (R'.less (by omega)) F₄.wdh (hlx.up F₄.keep) (htx.up F₄.keep) (by omega) hdx ((hlag.up (kgg.trans k₃)).up F₄.keep) hi' hlen) fun v h₇ tk₇ k₇ e₇ => ?_
        subst e₇
        rw [e']
        have F₄ := F₄.ext k₇.sub
        repeat walk_at "s"
        refine Ways.of (fun hc => ?_) (fun hc => ?_)
        · repeat walk_at "s"
          refine TurnE.rt (Back.r ?_)
          refine Post.mk' (F₄.toRd.but fun b o n e => k₃ _ _ (kgg _ _ (hg b o n e))) ?_
          have : decide (wd ≤ 0) = false := by simp; omega
          have hc' : persGo ac first (wd - 1) ds none = false := by simpa using hc
          rw [just, hb, this, hc']; rfl
        · repeat walk_at "s"
          refine TurnE.nxt F₄ (Sub.rfl' _) ⟨rfl, _, rfl, fun _ => ?_⟩
          have hc' : persGo ac first (wd - 1) ds none = true := by simpa using hc
          rw [just, hb, hc']; simp
      · repeat walk_at "s"
        refine TurnE.nxt F₄ (Sub.rfl' _) ⟨rfl, _, rfl, fun _ => ?_⟩
        have : decide (wd ≤ 0) = true := by simp; omega
        rw [just, hb, this]; rfl
end
end PC5
section PC6
open PySem PySem.W PyProof.Rows PySem.Calls
set_option Elab.async false
set_option linter.unusedVariables false
set_option maxRecDepth 100000
set_option maxHeartbeats 4000000
noncomputable def hasN (ds : List (Int × Int)) (k : Int) : Bool := ds.any fun p => decide (p.1 ≤ k) && decide (k ≤ p.2)
noncomputable def pruneD (ds : List (Int × Int)) (low : Int) : List (Int × Int) := (ds.filter fun p => decide (low ≤ p.2)).map fun p => (max p.1 low, p.2)
inductive NewL (h : Heap) (ns : List Int) (v : Value) (h' : Heap) : Prop
  | mk (a : Addr) (vs : List Value) (e : v = .ref a) (n : h.get? a = none) (o : ∃ c, h'.get? a = some (listOf (List.toArray vs) c)) (i : IntsAre vs ns)
noncomputable def TupN (h g₀ : Heap) (ds : List (Int × Int)) (vs : List Value) (h' : Heap) : Prop := Paired (fun d y => ∃ T us, y = .ref T ∧ IsT h' T us ∧ (h.get? T = none ∨ IsT g₀ T us) ∧ PrG d us) ds vs
theorem TupN.up {h g₀ g h' : Heap} {ds : List (Int × Int)} {vs : List Value} (k : Sub g h') (x : TupN h g₀ ds vs g) : TupN h g₀ ds vs h' := Paired.mono (fun _ _ ⟨T, us, a, b, c, e⟩ => ⟨T, us, a, b.up k, c, e⟩) x
theorem TupN.tups {h g₀ h' : Heap} {ds : List (Int × Int)} {vs : List Value} (x : TupN h g₀ ds vs h') : Tups PrG ds vs h' := Paired.mono (fun _ _ ⟨T, us, a, b, c, e⟩ => ⟨T, us, a, b, e⟩) x
theorem TupN.froz {h g₀ g' h' : Heap} {ds : List (Int × Int)} {vs : List Value} (k : Sub g₀ g') (f : ∀ a o, h.get? a = none → h'.get? a = some o → g'.get? a = some o) (x : TupN h g₀ ds vs h') : Tups PrG ds vs g' :=
  Paired.mono (fun _ _ ⟨T, us, a, b, c, e⟩ => ⟨T, us, a, c.elim (fun hn => let ⟨o, ho, r⟩ := b; ⟨o, f _ _ hn ho, r⟩) (fun x => x.up k), e⟩) x
inductive NewP (h g₀ : Heap) (ds : List (Int × Int)) (v : Value) (h' : Heap) : Prop
  | mk (a : Addr) (vs : List Value) (e : v = .ref a) (n : h.get? a = none) (o : ∃ c, h'.get? a = some (listOf (List.toArray vs) c)) (i : TupN h g₀ ds vs h')
theorem sorted_uniq {as bs : List Int} (hp : as.Perm bs) (ha : as.Pairwise (· ≤ ·)) (hb : bs.Pairwise (· ≤ ·)) : as = bs := hp.eq_of_pairwise (fun a b _ _ x y => Int.le_antisymm x y) ha hb
section
variable {w : World} {mg mb : Str → Option Value} {prog : Program} {A : Around} {s : Shared} {h g₀ : Heap} {tk n : Nat}
theorem has_number_ct {l : Addr} {vs : List Value} {ds : List (Int × Int)} {k : Int} {t1 : Tok} (R : Room (n+2) A) (W : Wd w mg mb h) (hl : IsL h l vs) (ht : Tups PrG ds vs h) (h64 : ds.length ≤ 64) :
    wpAny (model prog w) A (call (.ref 59) [.ref l, .int k t1]) (Post s h [] fun v _ => v = .bool (hasN ds k)) (fun _ _ => False) (upd s h tk) := by
  refine enter (V := [("ranges", some (.ref l)), ("n", some (.int k t1))]) (M := []) R W (Sub.rfl' _) rfl ?hcd rfl rfl rfl rfl rfl ?hkind ?hcn rfl rfl rfl ?hV ?hVn (List.forall_mem_nil _) List.nodup_nil ?q
  walk_at "facts"
  intro L h₁ tk₁ g kg hg _ _ _ F R'
  have hlg := hl.up kg
  have htg := ht.up kg
  have hvl : vs.length = ds.length := (Paired.length ht).symm
  repeat walk_at "s"
  walk_at "e_comp"
  repeat walk_at "s"
  rename Fx _ _ _ _ _ _ _ _ => F
  refine compE_sp (fun i ys => ys = (ds.take i).map fun p => Value.bool (decide (p.1 ≤ k) && decide (k ≤ p.2))) (fun a b => [("low", some a), ("high", some b), ("n", some (.int k t1))]) (fun i a b => ∃ d t u, ds[i]? = some d ∧ a = .int d.1 t ∧ b = .int d.2 u) R' F (src_l R'.handled hlg F.keep) (by omega) ?hPP (by intro v v'; repeat' (first | exact List.forall_mem_nil _ | (refine List.forall_mem_cons.mpr ⟨?_, ?_⟩; (first | exact .inl rfl | exact .inr (.inl rfl) | exact .inr (.inr ⟨rfl, _, rfl, rfl, rfl, At.mem (by walk_at "at")⟩))))) (by simp) (fun i ys e _ => by rw [e]; simp; omega) ?turn ?fin (by decide +kernel) rfl rfl rfl (by decide)
  case hPP =>
    intro i v hv
    obtain ⟨d, T, us, e1, rfl, hT, t, u, rfl⟩ := htg.get i v hv
    exact ⟨T, _, _, rfl, hT.up F.keep, d, t, u, e1, rfl, rfl⟩
  case turn =>
    rintro C i a b ys h₃ tk₃ hin ⟨d, t, u, e1, rfl, rfl⟩ rfl k₃ G
    have step : ∀ b, (ds.take (i + 1)).map (fun p => Value.bool (decide (p.1 ≤ k) && decide (k ≤ p.2))) = (ds.take i).map (fun p => Value.bool (decide (p.1 ≤ k) && decide (k ≤ p.2))) ++ [.bool b] ↔ b = (decide (d.1 ≤ k) && decide (k ≤ d.2)) := by
      intro b; rw [List.take_add_one, e1]; simp [eq_comm]
    repeat walk_at "s"
    refine Ways.dec (fun hb => ?_) (fun hb => ?_)
    · repeat walk_at "s"
      exact PEnd.mk' (Sub.rfl' _) (((step _).mpr (by simp [hb])).symm)
    · exact PEnd.mk' (Sub.rfl' _) (((step _).mpr (by simp [hb])).symm)
  case fin =>
    rintro D ys h' tk' rfl k' hD F'
    rw [hvl, List.take_length] at F'
    refine ⟨(kin F'.toRd), ?_⟩
    refine b_any (ds.map fun p => decide (p.1 ≤ k) && decide (k ≤ p.2)) R' (F'.isL .head) (by simp) fun h₂ tk₂ k₂ => ?_
    repeat walk_at "s"
    refine Post.mk' ((F'.ext k₂).but hg) ?_
    simp [hasN, List.any_map, Function.comp_def]
theorem newly_acked_ct {l lr : Addr} {va vs : List Value} {ns : List Int} {ds : List (Int × Int)} (R : Room (n+4) A) (W : Wd w mg mb h) (hla : IsL h l va) (hi' : IntsAre va ns) (hs : ns.Pairwise (· < ·)) (hln : ns.length ≤ 32) (hl : IsL h lr vs) (ht : Tups PrG ds vs h) (h64 : ds.length ≤ 64) :
    wpAny (model prog w) A (call (.ref 64) [.ref l, .ref lr]) (Post s h [] (NewL h (ns.filter (hasN ds)))) (fun _ _ => False) (upd s h tk) := by
  refine enter (V := [("sent_numbers", some (.ref l)), ("ranges", some (.ref lr))]) (M := []) R W (Sub.rfl' _) rfl ?hcd rfl rfl rfl rfl rfl ?hkind ?hcn rfl rfl rfl ?hV ?hVn (List.forall_mem_nil _) List.nodup_nil ?q
  walk_at "facts"
  intro L h₁ tk₁ g kg hg _ _ _ F R'
  have hlg := hl.up kg
  have hlag := hla.up kg
  have htg := ht.up kg
  have hvl : va.length = ns.length := hi'.length
  repeat walk_at "s"
  walk_at "e_comp"
  repeat walk_at "s"
  rename Fx _ _ _ _ _ _ _ _ => F
  refine compE_s (fun i ys => IntsAre ys ((ns.take i).filter (hasN ds))) (fun v => [("n", some v), ("ranges", some (.ref lr))]) R' F (src_l R'.handled hlag F.keep) (by omega) (by walk_at "caps") .nil (fun i ys e _ => by rw [e.length]; refine Nat.le_trans (List.length_filter_le _ _) ?_; simp; omega) ?turnc ?finc (by decide +kernel) rfl rfl
  case turnc =>
    rintro C i v ys h₃ tk₃ hin hv hO k₃ G
    obtain ⟨k, hk⟩ : ∃ k, ns[i]? = some k := ⟨ns[i]'(by omega), by simp⟩
    obtain ⟨t, ht'⟩ := hi'.get i k hk
    rw [ht'] at hv; cases hv
    have e1 : ((ns.take (i + 1)).filter (hasN ds)) = ((ns.take i).filter (hasN ds)) ++ ([k].filter (hasN ds)) := by
      rw [List.take_add_one, hk, List.filter_append]; rfl
    rw [e1]
    repeat walk_at "s"
    refine Post.use (has_number_ct (n := n) (R'.less (by omega)) G.wdh (hlg.up (F.keep.trans k₃)) (htg.up (F.keep.trans k₃)) h64) fun v h₆ tk₆ k₆ e₆ => ?_
    subst e₆
    have G := G.ext k₆.sub
    repeat walk_at "s"
    refine Ways.of (fun hb => ?_) (fun hb => ?_)
    · repeat walk_at "s"
      exact PEnd.mk' k₆.sub (by simp only [List.filter_cons, hb, if_true, List.filter_nil]; exact ints_snoc hO)
    · exact PEnd.mk' k₆.sub (by simpa [List.filter_cons, hb] using hO)
  case finc =>
    rintro D ys h' tk' hO k' hD F'
    rw [hvl, List.take_length] at hO
    refine ⟨(kin F'.toRd), ?_⟩
    have hz : ys.length ≤ 32 := by rw [hO.length]; exact Nat.le_trans (List.length_filter_le _ _) hln
    refine sorted_ints (s := s) hO (by omega) (fun Q' hq => collect_list (s := upd s h' tk') (F'.isL .head) (hq _ tk' ?_) (by rw [sizeLine_eq]; omega)) fun a h₂ tk₂ out ns' c k₂ ha ho hio hp hpw => ?_
    · intro b o e
      rw [Heap.get?_update_other _ _ (by intro e'; rw [← e'] at e; exact Nat.lt_irrefl _ (Heap.lt_size e))]
      exact Heap.get?_push_of_some _ e
    have hu : ns' = ns.filter (hasN ds) := sorted_uniq hp hpw ((hs.imp fun h => Int.le_of_lt h).filter _)
    subst hu
    repeat walk_at "s"
    have F₂ := F'.ext k₂
    refine Post.mk' (F₂.toRd.but hg) ⟨a, out, rfl, ?_, ⟨c, ho⟩, hio⟩
    cases e : h.get? a with
    | none => rfl
    | some o => have := k' _ _ (F.keep _ _ (hg a o (by simp) e)); rw [ha] at this; cases this
end
end PC6
section PC7
open PySem PySem.W PyProof.Rows PySem.Calls
set_option Elab.async false
set_option linter.unusedVariables false
set_option maxRecDepth 100000
set_option maxHeartbeats 4000000
section
variable {w : World} {mg mb : Str → Option Value} {prog : Program} {A : Around} {E : Value → Shared → Prop} {s : Shared} {h g₀ : Heap} {tk n : Nat}
theorem n_tupR {vs : List Value} {Q : Value → Shared → Prop} {MM : Model} (hz : vs.length ≤ sizeLine) (q : ∀ a h', Sub h h' → h.get? a = none → IsT h' a vs → Q (.ref a) (upd s h' tk)) :
    wpAny MM A (newTuple vs) Q E (upd s h tk) :=
  wpAny_newObj_type (s := upd s h tk) (q _ _ (Sub.push _ _) (fresh_size h) ⟨_, Heap.get?_push_size _ rfl, rfl, 0, rfl⟩) (by show vs.toArray.size ≤ sizeLine; simpa using hz)
theorem none_back {h h' : Heap} {a : Addr} (k : Sub h h') (e : h'.get? a = none) : h.get? a = none := by
  cases x : h.get? a with
  | none => rfl
  | some o => rw [k _ _ x] at e; cases e

theorem prune_ct {l : Addr} {vs : List Value} {ds : List (Int × Int)} {low : Int} {t1 : Tok} (R : Room (n+2) A) (W : Wd w mg mb h) (hl : IsL h l vs) (ht : Tups PrG ds vs h) (h64 : ds.length ≤ 64) :
    wpAny (model prog w) A (call (.ref 69) [.ref l, .int low t1]) (Post s h [] (NewP h g₀ (pruneD ds low))) (fun _ _ => False) (upd s h tk) := by
  refine enter (V := [("ranges", some (.ref l)), ("low", some (.int low t1))]) (M := []) R W (Sub.rfl' _) rfl ?hcd rfl rfl rfl rfl rfl ?hkind ?hcn rfl rfl rfl ?hV ?hVn (List.forall_mem_nil _) List.nodup_nil ?q
  walk_at "facts"
  intro L h₁ tk₁ g kg hg _ _ _ F R'
  have hlg := hl.up kg
  have htg := ht.up kg
  have hvl : vs.length = ds.length := (Paired.length ht).symm
  repeat walk_at "s"
  walk_at "e_comp"
  repeat walk_at "s"
  rename Fx _ _ _ _ _ _ _ _ => F
  refine compE_t (fun i => pruneD (ds.take i) low) PrG (fun v => [("one", some v), ("low", some (.int low t1))]) R' F (src_l R'.handled hlg F.keep) (by omega) (by walk_at "caps") rfl (fun i _ => by simp only [pruneD, List.length_map]; refine Nat.le_trans (List.length_filter_le _ _) ?_; simp; omega) ?turn ?fin (by decide +kernel) rfl rfl
  case turn =>
    rintro C i v ys X h₃ tk₃ hin hv hO k₃ hX G
    obtain ⟨d, T, us, e1, rfl, hT, t, u, rfl⟩ := htg.get i v hv
    have hT := hT.up F.keep
    have e2 : pruneD (ds.take (i + 1)) low = pruneD (ds.take i) low ++ pruneD [d] low := by
      rw [List.take_add_one, e1]; simp [pruneD]
    rw [e2]
    repeat walk_at "s"
    refine Ways.dec (fun hb => ?_) (fun hb => ?_)
    · repeat walk_at "s"
      refine b_max2 R' fun h₅ t₅ tk₅ k₅ => ?_
      have G := G.ext k₅
      have k₃ := k₃.trans k₅
      repeat walk_at "s"
      refine n_tupR (by simp [sizeLine_eq]) fun a h₆ k₆ ha hT₆ => ?_
      refine PEnd.mk' (k₅.trans k₆) ?_
      rw [show pruneD [d] low = [(max d.1 low, d.2)] by simp [pruneD, hb]]
      refine (hO.sub (k₅.trans k₆)).add (fun hm => ?_) (none_back k₃ ha) hT₆ ⟨_, _, rfl⟩
      have := hX a hm
      rw [none_back k₅ ha] at this; cases this
    · refine PEnd.mk' (Sub.rfl' _) ?_
      rw [show pruneD [d] low = [] by simp [pruneD, hb], List.append_nil]
      exact hO
  case fin =>
    rintro D ys h' tk' g₂ hO k₂ k' hD F'
    rw [hvl, List.take_length] at hO
    repeat walk_at "s"
    obtain ⟨o, ho, c, rfl⟩ := F'.own _ (.head _)
    exact Post.mk' (F'.toRd.but fun b o n e => k₂ _ _ (hg b o n e)) ⟨D, ys, rfl, none_back (fun b o e => F.keep b o (hg b o (by simp) e)) hD, ⟨c, ho⟩, Paired.mono (fun _ _ ⟨T, us, a, _, b, c, e⟩ => ⟨T, us, a, c.up F'.keep, .inl (none_back (fun b o e => F.keep b o (hg b o (by simp) e)) b), e⟩) hO⟩
end
end PC7
section PC8
open PySem PySem.W PyProof.Rows PySem.Calls
set_option Elab.async false
set_option linter.unusedVariables false
set_option maxRecDepth 100000
set_option maxHeartbeats 4000000
noncomputable def addF (f : List (Int × Int)) (isin : Bool) (lo hi : Int) : List (Int × Int) := if isin then f else f ++ [(lo, hi)]
noncomputable def addGo : List (Int × Int) → List (Int × Int) → Bool → Int → Int → List (Int × Int)
  | [], f, isin, lo, hi => addF f isin lo hi
  | one :: r, f, isin, lo, hi => if hi + 1 < one.1 then addGo r (f ++ [one]) isin lo hi
      else if one.2 < lo - 1 then addGo r (addF f isin lo hi ++ [one]) true lo hi
      else addGo r f isin (min lo one.1) (max hi one.2)
theorem addGo_cons (one : Int × Int) (r f : List (Int × Int)) (isin : Bool) (lo hi : Int) : addGo (one :: r) f isin lo hi = if hi + 1 < one.1 then addGo r (f ++ [one]) isin lo hi
      else if one.2 < lo - 1 then addGo r (addF f isin lo hi ++ [one]) true lo hi
      else addGo r f isin (min lo one.1) (max hi one.2) := rfl
section
variable {w : World} {mg mb : Str → Option Value} {prog : Program} {A : Around} {E : Value → Shared → Prop} {s : Shared} {h g₀ : Heap} {tk n : Nat}
inductive ArJ (h g₀ : Heap) (l : Addr) (ds : List (Int × Int)) (low high : Int) (i : Nat) (g : Heap) (V : List (Str × Option Value)) (M : List (Addr × (Obj → Prop))) : Prop
  | mk (f : Addr) (ys : List Value) (fds : List (Int × Int)) (isin : Bool) (lo hi : Int) (tl th : Tok) (v : Option Value) (eM : M = [(f, LstP ys)]) (hF : TupN h g₀ fds ys g) (hfl : fds.length ≤ 2 * i) (he : addGo ds [] false low high = addGo (ds.drop i) fds isin lo hi)
      (eV : V = ([("ranges", some (.ref l)), ("low", some (.int lo tl)), ("high", some (.int hi th)), ("found", some (.ref f)), ("is_in", some (.bool isin)), ("one", v)] : List (Str × Option Value)))
theorem add_range_ct {l : Addr} {vs : List Value} {ds : List (Int × Int)} {low high : Int} {t1 t2 : Tok} (R : Room (n+2) A) (W : Wd w mg mb g₀) (k₀ : Sub g₀ h) (hl : IsL g₀ l vs) (ht : Tups PrG ds vs g₀) (h64 : ds.length ≤ 64) :
    wpAny (model prog w) A (call (.ref 54) [.ref l, .int low t1, .int high t2]) (Post s h [] (NewP h g₀ (addGo ds [] false low high))) (fun _ _ => False) (upd s h tk) := by
  refine enter (V := [("ranges", some (.ref l)), ("low", some (.int low t1)), ("high", some (.int high t2)), ("found", none), ("is_in", none), ("one", none)]) (M := []) R W k₀ rfl ?hcd rfl rfl rfl rfl rfl ?hkind ?hcn rfl rfl rfl ?hV ?hVn (List.forall_mem_nil _) List.nodup_nil ?q
  walk_at "facts"
  intro L h₁ tk₁ g kg hg _ _ _ F R'
  have hlg := hl.up kg
  have htg := ht.up kg
  have hvl : vs.length = ds.length := (Paired.length ht).symm
  repeat walk_at "s"
  rename Fx _ _ _ _ _ _ _ _ => F
  have F := F.forget (List.sublist_cons_self _ _)
  refine forL (ArJ h g₀ l ds low high)
    F (src_l R'.handled hlg F.keep) ⟨_, _, [], _, _, _, _, _, _, rfl, .nil, by simp, rfl, rfl⟩ ?turn ?done
  case done =>
    rintro g₁ V₁ M₁ h₃ tk₃ ⟨f, ys, fds, isin, lo, hi, tl, th, v, rfl, hF, hfl, he, rfl⟩ k₃ F₃
    rw [hvl, List.drop_length] at he
    have hy : ys.length = fds.length := (Paired.length hF).symm
    have hnew : ∀ a, g₁.get? a = none → h.get? a = none := fun a e => none_back (fun b o e => k₃ _ _ (hg b o (by simp) e)) e
    repeat walk_at "s"
    refine Ways.of (fun hb => ?_) (fun hb => ?_)
    · subst hb
      repeat walk_at "s"
      obtain ⟨o, ho, c, rfl⟩ := F₃.own _ (.head _)
      refine Post.mk' (F₃.toRd.but fun b o n e => k₃ _ _ (hg b o n e)) ⟨f, ys, rfl, hnew _ (F₃.fresh .head), ⟨c, ho⟩, ?_⟩
      rw [he]; exact hF.up F₃.keep
    · subst hb
      repeat walk_at "s"
      rename Fx _ _ _ _ _ _ _ _ => F₄
      refine b_addl F₄ (F₄.isL (.tail (.tail .head))) (F₄.isL .head) (by simp [sizeLine_eq]; omega) fun a h' F₅ k₅ => ?_
      repeat walk_at "s"
      obtain ⟨o, ho, c, rfl⟩ := F₅.own _ (.head _)
      refine Post.mk' (F₅.toRd.but fun b o n e => k₃ _ _ (hg b o n e)) ⟨a, _, rfl, hnew _ (F₅.fresh .head), ⟨c, ho⟩, ?_⟩
      rw [he]
      exact Paired.snoc (hF.up F₅.keep) ⟨_, _, rfl, F₅.isT (.tail (.tail .head)), .inl (hnew _ (F₅.fresh (.tail (.tail .head)))), _, _, rfl⟩
  case turn =>
    rintro i v g₁ V₁ M₁ h₃ tk₃ I oI hi hv ⟨f, ys, fds, isin, lo, hi, tl, th, vv, rfl, hF, hfl, he, rfl⟩ k₃ F₃
    have hy : ys.length = fds.length := (Paired.length hF).symm
    obtain ⟨⟨d1, d2⟩, T, us, hd1, rfl, hT₀, tn, tt, rfl⟩ := ht.get i v hv
    have hT := hT₀.up kg
    have hdrop : ds.drop i = (d1, d2) :: ds.drop (i + 1) := by
      obtain ⟨hlt, e⟩ := List.getElem?_eq_some_iff.mp hd1
      rw [← e]; exact List.drop_eq_getElem_cons hlt
    rw [hdrop, addGo_cons] at he
    have hT₁ := hT.up k₃
    repeat walk_at "s"
    refine Ways.dec (fun hb => ?_) (fun hb => ?_)
    · rw [if_pos hb] at he
      repeat walk_at "s"
      rename Fx _ _ _ _ _ _ _ _ => F₄
      refine TurnE.nxt F₄ (Sub.rfl' _) ⟨f, _, fds ++ [(d1, d2)], isin, lo, hi, tl, th, _, rfl, Paired.snoc hF ⟨_, _, rfl, hT₁, .inr hT₀, _, _, rfl⟩, by simp; omega, he, rfl⟩
    · rw [if_neg hb] at he
      repeat walk_at "s"
      refine Ways.dec (fun hc => ?_) (fun hc => ?_)
      · rw [if_pos hc] at he
        repeat walk_at "s"
        refine Ways.of (fun hi' => ?_) (fun hi' => ?_)
        · have hi' : isin = false := by simpa using hi'
          subst hi'
          repeat walk_at "s"
          rename Fx _ _ _ _ _ _ _ _ => F₄
          have hnw : h.get? _ = none := none_back (fun b o e => k₃ _ _ (hg b o (by simp) e)) (F₄.fresh .head)
          refine Fx.frzc F₄ ?_
          rintro g₂ o k₂ ho hTP F₄
          have hT' := TupP.isT ho hTP
          refine TurnE.nxt F₄ k₂ ⟨f, _, fds ++ [(lo, hi)] ++ [(d1, d2)], true, lo, hi, tl, th, _, rfl, Paired.snoc (Paired.snoc (hF.up k₂) ⟨_, _, rfl, hT', .inl hnw, _, _, rfl⟩) ⟨_, _, rfl, hT₁.up k₂, .inr hT₀, _, _, rfl⟩, by simp; omega, he, rfl⟩
        · have hi' : isin = true := by simpa using hi'
          subst hi'
          repeat walk_at "s"
          rename Fx _ _ _ _ _ _ _ _ => F₄
          refine TurnE.nxt F₄ (Sub.rfl' _) ⟨f, _, fds ++ [(d1, d2)], true, lo, hi, tl, th, _, rfl, Paired.snoc hF ⟨_, _, rfl, hT₁, .inr hT₀, _, _, rfl⟩, by simp; omega, he, rfl⟩
      · rw [if_neg hc] at he
        repeat walk_at "s"
        rename Fx _ _ _ _ _ _ _ _ => F₄
        refine TurnE.nxt (F₄.forget (M' := [(I, (· = oI)), (f, LstP ys)]) (by simp)) (Sub.rfl' _) ⟨f, _, fds, isin, _, _, _, _, _, rfl, hF, by omega, he, rfl⟩
end
end PC8
section PC9
open PySem PySem.W PyProof.Rows PySem.Calls
set_option Elab.async false
set_option linter.unusedVariables false
set_option maxRecDepth 100000
set_option maxHeartbeats 4000000
noncomputable def FrP (b : Bool) (us : List Value) : Prop := if b then ∃ t, us = [.str "ping" t] else ∃ t u, us = [.str "padding" t, .int 5 u]
theorem FrP.head {b : Bool} {us : List Value} (x : FrP b us) : ∃ t r, us = .str (if b then "ping" else "padding") t :: r := by
  cases b
  · obtain ⟨t, u, rfl⟩ := x; exact ⟨t, _, rfl⟩
  · obtain ⟨t, rfl⟩ := x; exact ⟨t, _, rfl⟩
theorem NE_tup {w : World} : ∃ t1 t2 t3, (hd.heap_1 w.params).lookup 70 = some { cls := Value.type "tuple", data := Data.seq #[Value.str ("ack" : Str) t1, Value.str ("padding" : Str) t2, Value.str ("close" : Str) t3] } := ⟨_, _, _, rfl⟩
section
variable {w : World} {mg mb : Str → Option Value} {prog : Program} {A : Around} {E : Value → Shared → Prop} {s : Shared} {h g₀ : Heap} {tk n : Nat}
theorem notIn_strs {l : Addr} {items : List Value} {ns : List Str} {x : Str} {t : Tok} {Q : Value → Shared → Prop} (hl : IsT h l items) (hi : StrsAre items ns) (q : Q (.bool (!ns.any (· == x))) (upd s h tk)) :
    wpAny (model prog w) A (compareOp .NotIn (.str x t) (.ref l)) Q E (upd s h tk) := by
  have key : (items.toArray.any fun v => match v with | .str y _ => y == x | _ => false) = ns.any (· == x) := by
    simp only [List.any_toArray]
    clear hl q
    induction hi with
    | nil => rfl
    | cons _ _ _ ih => simp only [List.any_cons, ih]
  refine SeqAt.notIn_tupleAt (s := upd s h tk) (fun v => match v with | .str y _ => y == x | _ => false) hl (fun y hy => ?_) (by rw [key]; exact q)
  have : ∃ z u, y = .str z u := by
    replace hy : y ∈ items := by simpa using hy
    clear hl q key
    induction hi with
    | nil => cases hy
    | cons z u _ ih => rcases List.mem_cons.mp hy with rfl | hy; exact ⟨_, _, rfl⟩; exact ih hy
  obtain ⟨z, u, rfl⟩ := this
  exact SeqAt.EqAt.str_str z u x t
theorem is_eliciting_ct {l : Addr} {us : List Value} {b : Bool} (R : Room (n+1) A) (W : Wd w mg mb h) (hl : IsT h l us) (hf : FrP b us) :
    wpAny (model prog w) A (call (.ref 77) [.ref l]) (Post s h [] fun v _ => v = .bool b) (fun _ _ => False) (upd s h tk) := by
  refine enter (V := [("f", some (.ref l))]) (M := []) R W (Sub.rfl' _) rfl ?hcd rfl rfl rfl rfl rfl ?hkind ?hcn rfl rfl rfl ?hV ?hVn (List.forall_mem_nil _) List.nodup_nil ?q
  walk_at "facts"
  intro L h₁ tk₁ g kg hg _ _ _ F R'
  have hlg := hl.up kg
  obtain ⟨t, r, rfl⟩ := hf.head
  repeat walk_at "s"
  rename Fx _ _ _ _ _ _ _ _ => F
  obtain ⟨t1, t2, t3, e⟩ := @NE_tup w
  refine notIn_strs (items := [_, _, _]) (x := if b then "ping" else "padding") ⟨_, F.wdh.K _ _ e, rfl, 0, rfl⟩ (.cons _ _ (.cons _ _ (.cons _ _ .nil))) ?_
  repeat walk_at "s"
  refine Post.mk' (F.but hg) ?_
  cases b <;> decide
theorem counts_ct {l : Addr} {us : List Value} {b : Bool} (R : Room (n+1) A) (W : Wd w mg mb h) (hl : IsT h l us) (hf : FrP b us) :
    wpAny (model prog w) A (call (.ref 84) [.ref l]) (Post s h [] fun v _ => v = .bool true) (fun _ _ => False) (upd s h tk) := by
  refine enter (V := [("f", some (.ref l))]) (M := []) R W (Sub.rfl' _) rfl ?hcd rfl rfl rfl rfl rfl ?hkind ?hcn rfl rfl rfl ?hV ?hVn (List.forall_mem_nil _) List.nodup_nil ?q
  walk_at "facts"
  intro L h₁ tk₁ g kg hg _ _ _ F R'
  have hlg := hl.up kg
  obtain ⟨t, r, rfl⟩ := hf.head
  repeat walk_at "s"
  rename Fx _ _ _ _ _ _ _ _ => F
  refine notIn_strs (items := [_, _]) (x := if b then "ping" else "padding") (F.isT .head) (.cons _ _ (.cons _ _ .nil)) ?_
  repeat walk_at "s"
  refine Post.mk' (F.toRd.but hg) ?_
  cases b <;> decide

theorem reads_frame {h : Heap} {l : Addr} {us : List Value} {b : Bool} (hl : IsT h l us) (hf : FrP b us) : Reads h (.ref l) (if b then .tuple [.str "ping"] else .tuple [.str "padding", .int 5]) [] := by
  obtain ⟨o, ho, hc, n, hd⟩ := hl
  cases b
  · obtain ⟨t, u, rfl⟩ := hf
    exact .tuple ho hc hd (.cons (as := []) (bs := []) (.str _ _) (.cons (as := []) (bs := []) (.int _ _) .nil))
  · obtain ⟨t, rfl⟩ := hf
    exact .tuple ho hc hd (.cons (as := []) (bs := []) (.str _ _) .nil)
theorem reads_list1 {h : Heap} {D : Addr} {v : Value} {d : PyData} (hl : IsL h D [v]) (r : Reads h v d []) : Reads h (.ref D) (.list [d]) [D] := by
  obtain ⟨o, ho, hc, n, hd⟩ := hl
  exact .list ho hc hd (.cons (as := []) (bs := []) r .nil)
theorem reads_list0 {h : Heap} {D : Addr} (hl : IsL h D []) : Reads h (.ref D) (.list []) [D] := by
  obtain ⟨o, ho, hc, n, hd⟩ := hl
  exact .list ho hc hd .nil
theorem ne_frames {a b : Addr} {T : Addr} {us : List Value} {q : Bool} {Q : Value → Shared → Prop} (R : Room n A) (ha : IsL h a [.ref T]) (hT : IsT h T us) (hf : FrP q us) (hb : IsL h b []) (k : Q (.bool true) (upd s h tk)) : wpAny (model prog w) A (compareOp .NotEq (.ref a) (.ref b)) Q E (upd s h tk) := by
  refine ne_dataH_same (s := upd s h tk) (reads_list1 ha (reads_frame hT hf)) (reads_list0 hb) ?_ ?_ R.cl64 ?_ ?_
  · cases q <;> decide +kernel
  · decide +kernel
  · cases q <;> decide +kernel
  · have : PySem.Spec.same (.list [if q then .tuple [.str "ping"] else .tuple [.str "padding", .int 5]]) (.list []) = false := by cases q <;> decide +kernel
    rw [this]; exact k
theorem any_eliciting_ct {l T : Addr} {us : List Value} {b : Bool} (R : Room (n+3) A) (W : Wd w mg mb h) (hl : IsL h l [.ref T]) (hT : IsT h T us) (hf : FrP b us) :
    wpAny (model prog w) A (call (.ref 89) [.ref l]) (Post s h [] fun v _ => v = .bool b) (fun _ _ => False) (upd s h tk) := by
  refine enter (V := [("row", some (.ref l))]) (M := []) R W (Sub.rfl' _) rfl ?hcd rfl rfl rfl rfl rfl ?hkind ?hcn rfl rfl rfl ?hV ?hVn (List.forall_mem_nil _) List.nodup_nil ?q
  walk_at "facts"
  intro L h₁ tk₁ g kg hg _ _ _ F R'
  have hlg := hl.up kg
  repeat walk_at "s"
  walk_at "e_comp"
  repeat walk_at "s"
  rename Fx _ _ _ _ _ _ _ _ => F
  refine compE_s (fun i ys => ys = if b then [Value.ref T].take i else []) (fun v => [("f", some v)]) R' F (src_l R'.handled hlg F.keep) (by simp) (by walk_at "caps") (by simp) (fun i ys e _ => by rw [e]; split <;> simp <;> omega) ?turn ?fin (by decide +kernel) rfl rfl
  case turn =>
    rintro C i v ys h₃ tk₃ hin hv rfl k₃ G
    have hi : i = 0 := by simpa using hin
    subst hi
    cases hv
    repeat walk_at "s"
    refine Post.use (is_eliciting_ct (n := n) (R'.less (by omega)) G.wdh ((hT.up kg).up (F.keep.trans k₃)) hf) fun v h₆ tk₆ k₆ e₆ => ?_
    subst e₆
    have G := G.ext k₆.sub
    repeat walk_at "s"
    refine Ways.of (fun hb => ?_) (fun hb => ?_)
    · repeat walk_at "s"
      exact PEnd.mk' k₆.sub (by simp [hb])
    · exact PEnd.mk' k₆.sub (by simp [hb])
  case fin =>
    rintro D ys h' tk' rfl k' hD F'
    repeat walk_at "s"
    rename Fx _ _ _ _ _ _ _ _ => F'
    cases b
    · refine ne_intsK (ns := []) (ms := []) (F'.isL (.tail .head)) (by simpa using .nil) (F'.isL .head) .nil R'.cl64 ?_
      repeat walk_at "s"
      exact Post.mk' (F'.toRd.but hg) rfl
    · refine ne_frames R' (F'.isL (.tail .head)) ((hT.up kg).up F'.keep) hf (F'.isL .head) ?_
      repeat walk_at "s"
      exact Post.mk' (F'.toRd.but hg) rfl
theorem any_in_flight_ct {l T : Addr} {us : List Value} {b : Bool} (R : Room (n+3) A) (W : Wd w mg mb h) (hl : IsL h l [.ref T]) (hT : IsT h T us) (hf : FrP b us) :
    wpAny (model prog w) A (call (.ref 94) [.ref l]) (Post s h [] fun v _ => v = .bool true) (fun _ _ => False) (upd s h tk) := by
  refine enter (V := [("row", some (.ref l))]) (M := []) R W (Sub.rfl' _) rfl ?hcd rfl rfl rfl rfl rfl ?hkind ?hcn rfl rfl rfl ?hV ?hVn (List.forall_mem_nil _) List.nodup_nil ?q
  walk_at "facts"
  intro L h₁ tk₁ g kg hg _ _ _ F R'
  have hlg := hl.up kg
  repeat walk_at "s"
  walk_at "e_comp"
  repeat walk_at "s"
  rename Fx _ _ _ _ _ _ _ _ => F
  refine compE_s (fun i ys => ys = [Value.ref T].take i) (fun v => [("f", some v)]) R' F (src_l R'.handled hlg F.keep) (by simp) (by walk_at "caps") (by simp) (fun i ys e _ => by rw [e]; simp; omega) ?turn ?fin (by decide +kernel) rfl rfl
  case turn =>
    rintro C i v ys h₃ tk₃ hin hv rfl k₃ G
    have hi : i = 0 := by simpa using hin
    subst hi
    cases hv
    repeat walk_at "s"
    refine Post.use (counts_ct (n := n) (R'.less (by omega)) G.wdh ((hT.up kg).up (F.keep.trans k₃)) hf) fun v h₆ tk₆ k₆ e₆ => ?_
    subst e₆
    have G := G.ext k₆.sub
    repeat walk_at "s"
    exact PEnd.mk' k₆.sub (by simp)
  case fin =>
    rintro D ys h' tk' rfl k' hD F'
    repeat walk_at "s"
    rename Fx _ _ _ _ _ _ _ _ => F'
    refine ne_frames R' (F'.isL (.tail .head)) ((hT.up kg).up F'.keep) hf (F'.isL .head) ?_
    repeat walk_at "s"
    exact Post.mk' (F'.toRd.but hg) rfl
end
end PC9
section PC10
open PySem PySem.W PyProof.Rows PySem.Calls
set_option Elab.async false
set_option linter.unusedVariables false
set_option maxRecDepth 100000
set_option maxHeartbeats 4000000
section
variable {w : World} {mg mb : Str → Option Value} {prog : Program} {A : Around} {E : Value → Shared → Prop} {s : Shared} {h g₀ : Heap} {tk n : Nat}
structure PkP (nv tv : Int) (b : Bool) (f : Str → Option Value) : Prop where
  time : ∃ t, f "time" = some (.int tv t)
  size : ∃ t, f "size" = some (.int 50 t)
  el : f "is_eliciting" = some (.bool b)
  fl : f "in_flight" = some (.bool true)
inductive SpQ (h : Heap) (dx : Addr) (nv tv : Int) (b : Bool) (s : Shared) (v : Value) (s' : Shared) : Prop
  | mk (e : v = .none) (h' : Heap) (tk' : Nat) (f : Str → Option Value) (e' : s' = upd s h' tk') (k : But [dx] h h') (o : ∃ o, h'.get? dx = some o ∧ ObjP 6 f o) (p : PkP nv tv b f)
theorem sp_init {RR : Result → Shared → Prop} {x dx l T : Addr} {us : List Value} {b : Bool} {nv tv : Int} {t1 t2 t3 : Tok} (R : Room (n+4) A) (W : Wd w mg mb g₀) (k₀ : Sub g₀ h) (hx : h.get? x = some (instObj 111 dx)) (hne : x ≠ dx) (hdx : h.get? dx = some emptyDict) (hg₀ : g₀.get? dx = none)
    (hl : IsL g₀ l [.ref T]) (hT : IsT g₀ T us) (hf : FrP b us)
    (q : ∀ h' tk' f, But [dx] h h' → (∃ o, h'.get? dx = some o ∧ ObjP 6 f o) → PkP nv tv b f → RR (.ok (.ret .none)) (upd s h' tk')) :
    codeAny (model prog w) A (.call (.ref 108) ⟨[.ref x, .int nv t1, .int tv t2, .int 50 t3, .ref l], []⟩) RR (upd s h tk) := by
  refine enterC (Q := SpQ h dx nv tv b s) (fun v s' ⟨e, h', tk', f, e', k, o, p⟩ => e ▸ e' ▸ q h' tk' f k o p)
    (V := [("self", some (.ref x)), ("number", some (.int nv t1)), ("time", some (.int tv t2)), ("size", some (.int 50 t3)), ("frames", some (.ref l))]) (M := [(dx, ObjP 0 fun _ => none)]) R W k₀ rfl ?hcd rfl rfl rfl rfl rfl ?hkind ?hcn rfl rfl rfl ?hV ?hVn ?hM (by simp) ?q
  walk_at "facts"
  case hM => intro p hp; rw [List.mem_singleton.mp hp]; exact ⟨⟨_, hdx, ObjP.empty⟩, hg₀⟩
  intro L h₁ tk₁ g kg hg _ _ _ F R'
  have hlg := hl.up kg
  have hTg := hT.up kg
  have hxg : g.get? x = some (instObj 111 dx) := hg x _ (by simpa using hne) hx
  repeat walk_at "s"
  rename Fx _ _ _ _ _ _ _ _ => F₂
  refine Post.use (any_eliciting_ct (n := n) R' F₂.wdh (hlg.up F₂.keep) (hTg.up F₂.keep) hf) fun v h₆ tk₆ k₆ e₆ => ?_
  subst e₆
  have F₂ := F₂.ext k₆.sub
  repeat walk_at "s"
  rename Fx _ _ _ _ _ _ _ _ => F₃
  refine Post.use (any_in_flight_ct (n := n) R' F₃.wdh (hlg.up F₃.keep) (hTg.up F₃.keep) hf) fun v h₇ tk₇ k₇ e₇ => ?_
  subst e₇
  have F₃ := F₃.ext k₇.sub
  repeat walk_at "s"
  rename Fx _ _ _ _ _ _ _ _ => F₄
  exact ⟨rfl, _, _, _, rfl, F₄.toRd.but hg, F₄.ownAt .head, ⟨⟨_, by walk_at "fld"⟩, ⟨_, by walk_at "fld"⟩, by walk_at "fld", by walk_at "fld"⟩⟩
theorem sub_two {h : Heap} {C : Addr} : Sub h ((h.push emptyDict).push (instObj C h.objs.size)) := (Sub.push _ _).trans (Sub.push _ _)
theorem two_x {h : Heap} {C : Addr} : ((h.push emptyDict).push (instObj C h.objs.size)).get? (h.objs.size + 1) = some (instObj C h.objs.size) := by
  have := Heap.get?_push_size (h.push emptyDict) (o := instObj C h.objs.size) rfl
  rwa [Heap.size_push] at this
theorem two_d {h : Heap} {C : Addr} : ((h.push emptyDict).push (instObj C h.objs.size)).get? h.objs.size = some emptyDict := Heap.get?_push_of_some _ (Heap.get?_push_size h rfl)
theorem get_above {h : Heap} {a : Addr} (hh : h.objs.size ≤ a) : h.get? a = none := by
  cases e : h.get? a with
  | none => rfl
  | some o => exact absurd (Heap.lt_size e) (Nat.not_lt.mpr hh)
inductive NewPk (h : Heap) (nv tv : Int) (b : Bool) (v : Value) (h' : Heap) : Prop
  | mk (x dx : Addr) (f : Str → Option Value) (e : v = .ref x) (ne : x ≠ dx) (n1 : h.get? x = none) (n2 : h.get? dx = none) (hx : h'.get? x = some (instObj 111 dx)) (o : ∃ o, h'.get? dx = some o ∧ ObjP 6 f o) (p : PkP nv tv b f)
theorem sp_new {l T : Addr} {us : List Value} {b : Bool} {nv tv : Int} {t1 t2 t3 : Tok} (R : Room (n+5) A) (W : Wd w mg mb h) (hl : IsL h l [.ref T]) (hT : IsT h T us) (hf : FrP b us) :
    wpAny (model prog w) A (call (.ref 111) [.int nv t1, .int tv t2, .int 50 t3, .ref l]) (Post s h [] (NewPk h nv tv b)) (fun _ _ => False) (upd s h tk) := by
  refine wpAny_call (c_cls (h := h) (fI := 108) W.K (by kernel_rfl) (by kernel_rfl) (by kernel_rfl) ?_)
  have hne : h.objs.size + 1 ≠ h.objs.size := by omega
  refine sp_init (h := (h.push emptyDict).push (instObj 111 h.objs.size)) R.cls W sub_two two_x hne two_d (fresh_size h) hl hT hf fun h' tk' f k o p => ?_
  refine ⟨rfl, Post.mk' ?_ ⟨_, _, f, rfl, hne, get_above (Nat.le_succ _), fresh_size h, k _ _ (by simpa using hne) two_x, o, p⟩⟩
  exact fun b o _ e => k b o (by simp only [List.mem_singleton]; rintro rfl; rw [fresh_size] at e; cases e) (sub_two b o e)
end
end PC10
section PC11
open PySem PySem.W PyProof.Rows PySem.Calls
set_option Elab.async false
set_option linter.unusedVariables false
set_option maxRecDepth 100000
set_option maxHeartbeats 4000000
noncomputable def scMeths : List Str := ["take_number", "on_sent", "take", "acked_by", "note_ranges", "note_largest", "sent_rows"]
noncomputable def LgP (lg : Option Int) (v : Option Value) : Prop := match lg with | none => v = some .none | some n => ∃ t, v = some (.int n t)
structure ScP (d la : Addr) (nn : Int) (lg : Option Int) (f : Str → Option Value) : Prop where
  nn : ∃ t, f "next_number" = some (.int nn t)
  sent : f "sent" = some (.ref d)
  lg : LgP lg (f "largest_acked")
  ack : f "acked" = some (.ref la)
  le : ∃ v, f "last_eliciting_time" = some v
  m : ∀ x ∈ scMeths, f x = none
section
variable {w : World} {mg mb : Str → Option Value} {prog : Program} {A : Around} {E : Value → Shared → Prop} {s : Shared} {h g₀ : Heap} {tk n : Nat}
inductive ScQ (prog : Program) (w : World) (h : Heap) (dx : Addr) (s : Shared) (v : Value) (s' : Shared) : Prop
  | mk (e : v = .none) (h' : Heap) (tk' : Nat) (f : Str → Option Value) (d la : Addr) (e' : s' = upd s h' tk') (k : But [dx] h h') (o : ∃ o, h'.get? dx = some o ∧ ObjP 17 f o) (p : ScP d la 0 none f) (a1 : (d == sysModules) = false) (a2 : h.get? d = none) (a3 : h.get? la = none) (a4 : d ≠ la) (a5 : ∃ o, h'.get? d = some o ∧ DcP prog w [] o) (a6 : ∃ o, h'.get? la = some o ∧ LstP [] o)
theorem sc_init {RR : Result → Shared → Prop} {x dx : Addr} {nm : Str} {t1 : Tok} (R : Room (n+1) A) (W : Wd w mg mb g₀) (k₀ : Sub g₀ h) (hx : h.get? x = some (instObj 256 dx)) (hne : x ≠ dx) (hdx : h.get? dx = some emptyDict) (hg₀ : g₀.get? dx = none)
    (q : ∀ h' tk' f d la, But [dx] h h' → (∃ o, h'.get? dx = some o ∧ ObjP 17 f o) → ScP d la 0 none f → (d == sysModules) = false → h.get? d = none → h.get? la = none → d ≠ la → (∃ o, h'.get? d = some o ∧ DcP prog w [] o) → (∃ o, h'.get? la = some o ∧ LstP [] o) → RR (.ok (.ret .none)) (upd s h' tk')) :
    codeAny (model prog w) A (.call (.ref 129) ⟨[.ref x, .str nm t1], []⟩) RR (upd s h tk) := by
  refine enterC (Q := ScQ prog w h dx s) (fun v s' ⟨e, h', tk', f, d, la, e', k, o, p, a1, a2, a3, a4, a5, a6⟩ => e ▸ e' ▸ q h' tk' f d la k o p a1 a2 a3 a4 a5 a6)
    (V := [("self", some (.ref x)), ("name", some (.str nm t1))]) (M := [(dx, ObjP 0 fun _ => none)]) R W k₀ rfl ?hcd rfl rfl rfl rfl rfl ?hkind ?hcn rfl rfl rfl ?hV ?hVn ?hM (by simp) ?q
  walk_at "facts"
  case hM => intro p hp; rw [List.mem_singleton.mp hp]; exact ⟨⟨_, hdx, ObjP.empty⟩, hg₀⟩
  intro L h₁ tk₁ g kg hg _ _ _ F R'
  have hxg : g.get? x = some (instObj 256 dx) := hg x _ (by simpa using hne) hx
  repeat walk_at "s"
  rename Fx _ _ _ _ _ _ _ _ => F₂
  have hnd := (List.nodup_append.mp (List.nodup_cons.mp F₂.nd).2).2.1
  simp only [List.map_cons, List.map_nil, List.nodup_cons, List.mem_cons, List.not_mem_nil, or_false, not_or] at hnd
  have new : ∀ a, g.get? a = none → a ≠ dx → h.get? a = none := fun a e hn => by
    cases e' : h.get? a with
    | none => rfl
    | some o => rw [hg a o (by simpa using hn) e'] at e; cases e
  refine ⟨rfl, _, _, _, _, _, rfl, F₂.toRd.but hg, F₂.ownAt (.tail (.tail (.tail (.tail .head)))), ⟨⟨_, by walk_at "fld"⟩, by walk_at "fld", (by show _ = _; walk_at "fld"), by walk_at "fld", ⟨_, by walk_at "fld"⟩, ?_⟩, ?_, new _ (F₂.fresh (.tail (.tail (.tail .head)))) hnd.2.2.2.1, new _ (F₂.fresh (.tail (.tail .head))) hnd.2.2.1.2, fun e => hnd.2.2.1.1 e.symm, F₂.ownAt (.tail (.tail (.tail .head))), F₂.ownAt (.tail (.tail .head))⟩
  · intro y hy
    simp only [scMeths, List.mem_cons, List.not_mem_nil, or_false] at hy
    rcases hy with rfl | rfl | rfl | rfl | rfl | rfl | rfl <;> walk_at "fldN"
  · assumption
inductive NewSc (prog : Program) (w : World) (h : Heap) (v : Value) (h' : Heap) : Prop
  | mk (x dx d la : Addr) (f : Str → Option Value) (e : v = .ref x) (n1 : h.get? x = none) (n2 : h.get? dx = none) (n3 : h.get? d = none) (n4 : h.get? la = none) (nd : [x, dx, d, la].Nodup) (hx : h'.get? x = some (instObj 256 dx)) (o : ∃ o, h'.get? dx = some o ∧ ObjP 17 f o) (p : ScP d la 0 none f) (hm : (d == sysModules) = false) (od : ∃ o, h'.get? d = some o ∧ DcP prog w [] o) (ol : ∃ o, h'.get? la = some o ∧ LstP [] o)
theorem sc_new {nm : Str} {t1 : Tok} (R : Room (n+2) A) (W : Wd w mg mb h) :
    wpAny (model prog w) A (call (.ref 256) [.str nm t1]) (Post s h [] (NewSc prog w h)) (fun _ _ => False) (upd s h tk) := by
  refine wpAny_call (c_cls (h := h) (fI := 129) W.K (by kernel_rfl) (by kernel_rfl) (by kernel_rfl) ?_)
  have hne : h.objs.size + 1 ≠ h.objs.size := by omega
  refine sc_init (h := (h.push emptyDict).push (instObj 256 h.objs.size)) R.cls W sub_two two_x hne two_d (fresh_size h) fun h' tk' f d la k o p a1 a2 a3 a4 a5 a6 => ?_
  have ne : ∀ {a b : Addr} {o : Obj}, ((h.push emptyDict).push (instObj 256 h.objs.size)).get? a = none → ((h.push emptyDict).push (instObj 256 h.objs.size)).get? b = some o → b ≠ a := fun x y e => by rw [e, x] at y; cases y
  refine ⟨rfl, Post.mk' ?_ ⟨_, _, d, la, f, rfl, get_above (Nat.le_succ _), fresh_size h, none_back sub_two a2, none_back sub_two a3, ?_, k _ _ (by simpa using hne) two_x, o, p, a1, a5, a6⟩⟩
  · exact fun b o _ e => k b o (by simp only [List.mem_singleton]; rintro rfl; rw [fresh_size] at e; cases e) (sub_two b o e)
  · simp only [List.nodup_cons, List.mem_cons, List.not_mem_nil, or_false, not_or, not_false_eq_true, List.nodup_nil, and_true]
    exact ⟨⟨hne, ne a2 two_x, ne a3 two_x⟩, ⟨ne a2 two_d, ne a3 two_d⟩, a4⟩
end
end PC11
section PC12
open PySem PySem.W PyProof.Rows PySem.Calls
set_option Elab.async false
set_option linter.unusedVariables false
set_option maxRecDepth 100000
set_option maxHeartbeats 4000000
noncomputable def lgMax (lg : Option Int) (m : Int) : Int := match lg with | none => m | some k => max k m
theorem scF {y : Str} {f : Str → Option Value} {x : Str} {v : Value} (h : y ≠ x) {r : Option Value} (e : f y = r) : fset f x v y = r := (fset_other h).trans e
section
variable {d la : Addr} {nn : Int} {lg : Option Int} {f : Str → Option Value}
theorem ScP.meths {x : Str} {v : Value} (P : ScP d la nn lg f) (hx : x ∉ scMeths) : ∀ y ∈ scMeths, fset f x v y = none := fun y hy => scF (by rintro rfl; exact hx hy) (P.m y hy)
theorem ScP.set_nn {m : Int} {t : Tok} (P : ScP d la nn lg f) : ScP d la m lg (fset f "next_number" (.int m t)) :=
  ⟨⟨t, fset_same⟩, scF (by decide) P.sent, by rw [scF (y := "largest_acked") (by decide) rfl]; exact P.lg, scF (by decide) P.ack, let ⟨v, e⟩ := P.le; ⟨v, scF (by decide) e⟩, P.meths (by decide)⟩
theorem ScP.set_le {v : Value} (P : ScP d la nn lg f) : ScP d la nn lg (fset f "last_eliciting_time" v) :=
  ⟨let ⟨t, e⟩ := P.nn; ⟨t, scF (by decide) e⟩, scF (by decide) P.sent, by rw [scF (y := "largest_acked") (by decide) rfl]; exact P.lg, scF (by decide) P.ack, ⟨v, fset_same⟩, P.meths (by decide)⟩
theorem ScP.set_lg {m : Int} {t : Tok} (P : ScP d la nn lg f) : ScP d la nn (some m) (fset f "largest_acked" (.int m t)) :=
  ⟨let ⟨t, e⟩ := P.nn; ⟨t, scF (by decide) e⟩, scF (by decide) P.sent, ⟨t, fset_same⟩, scF (by decide) P.ack, let ⟨v, e⟩ := P.le; ⟨v, scF (by decide) e⟩, P.meths (by decide)⟩
theorem ScP.set_ack {la' : Addr} (P : ScP d la nn lg f) : ScP d la' nn lg (fset f "acked" (.ref la')) :=
  ⟨let ⟨t, e⟩ := P.nn; ⟨t, scF (by decide) e⟩, scF (by decide) P.sent, by rw [scF (y := "largest_acked") (by decide) rfl]; exact P.lg, fset_same, let ⟨v, e⟩ := P.le; ⟨v, scF (by decide) e⟩, P.meths (by decide)⟩
end
section
variable {w : World} {mg mb : Str → Option Value} {prog : Program} {A : Around} {E : Value → Shared → Prop} {s : Shared} {h g₀ : Heap} {tk n : Nat} {x dx d la : Addr} {nn : Int} {lg : Option Int} {f : Str → Option Value}
theorem take_number_ct (R : Room (n+1) A) (W : Wd w mg mb g₀) (k₀ : Sub g₀ h) (hx : g₀.get? x = some (instObj 256 dx)) (hdx : ∃ o, h.get? dx = some o ∧ ObjP 17 f o) (hg₀ : g₀.get? dx = none) (P : ScP d la nn lg f) :
    wpAny (model prog w) A (call (.ref 171) [.ref x]) (Post s h [dx] fun v h' => (∃ t, v = .int nn t) ∧ ∃ f', (∃ o, h'.get? dx = some o ∧ ObjP 17 f' o) ∧ ScP d la (nn + 1) lg f') (fun _ _ => False) (upd s h tk) := by
  refine enter (V := [("self", some (.ref x))]) (M := [(dx, ObjP 17 f)]) R W k₀ rfl ?hcd rfl rfl rfl rfl rfl ?hkind ?hcn rfl rfl rfl ?hV ?hVn ?hM (by simp) ?q
  walk_at "facts"
  case hM => intro p hp; rw [List.mem_singleton.mp hp]; exact ⟨hdx, hg₀⟩
  intro L h₁ tk₁ g kg hg _ _ _ F R'
  have hxg := kg _ _ hx
  obtain ⟨t, hnn⟩ := P.nn
  repeat walk_at "s"
  rename Fx _ _ _ _ _ _ _ _ => F
  exact Post.mk' (F.toRd.but hg) ⟨int_eq (by omega), _, F.ownAt .head, P.set_nn⟩
theorem note_largest_ct {m : Int} {t1 : Tok} (R : Room (n+1) A) (W : Wd w mg mb g₀) (k₀ : Sub g₀ h) (hx : g₀.get? x = some (instObj 256 dx)) (hdx : ∃ o, h.get? dx = some o ∧ ObjP 17 f o) (hg₀ : g₀.get? dx = none) (P : ScP d la nn lg f) :
    wpAny (model prog w) A (call (.ref 218) [.ref x, .int m t1]) (Post s h [dx] fun v h' => v = .none ∧ ∃ f', (∃ o, h'.get? dx = some o ∧ ObjP 17 f' o) ∧ ScP d la nn (some (lgMax lg m)) f') (fun _ _ => False) (upd s h tk) := by
  refine enter (V := [("self", some (.ref x)), ("number", some (.int m t1))]) (M := [(dx, ObjP 17 f)]) R W k₀ rfl ?hcd rfl rfl rfl rfl rfl ?hkind ?hcn rfl rfl rfl ?hV ?hVn ?hM (by simp) ?q
  walk_at "facts"
  case hM => intro p hp; rw [List.mem_singleton.mp hp]; exact ⟨hdx, hg₀⟩
  intro L h₁ tk₁ g kg hg _ _ _ F R'
  have hxg := kg _ _ hx
  cases lg with
  | none =>
    have hlg : f "largest_acked" = some .none := P.lg
    repeat walk_at "s"
    try refine Ways.yes rfl ?_
    repeat walk_at "s"
    rename Fx _ _ _ _ _ _ _ _ => F
    exact Post.mk' (F.toRd.but hg) ⟨rfl, _, F.ownAt .head, P.set_lg⟩
  | some k =>
    obtain ⟨t, hlg⟩ := P.lg
    repeat walk_at "s"
    try refine Ways.no rfl ?_
    repeat walk_at "s"
    refine Ways.dec (fun hb => ?_) (fun hb => ?_)
    · repeat walk_at "s"
      rename Fx _ _ _ _ _ _ _ _ => F
      have e : max k m = m := by omega
      exact Post.mk' (F.toRd.but hg) ⟨rfl, _, F.ownAt .head, by rw [show lgMax (some k) m = m from e]; exact P.set_lg⟩
    · repeat walk_at "s"
      rename Fx _ _ _ _ _ _ _ _ => F
      have e : max k m = k := by omega
      exact Post.mk' (F.toRd.but hg) ⟨rfl, _, F.ownAt .head, by rw [show lgMax (some k) m = k from e]; exact P⟩
end
end PC12
section PC13
open PySem PySem.W PyProof.Rows PySem.Calls
set_option Elab.async false
set_option linter.unusedVariables false
set_option maxRecDepth 100000
set_option maxHeartbeats 4000000
theorem Fx.back {w : World} {mg mb : Str → Option Value} {g h h₁ : Heap} {env : Env} {V : List (Str × Option Value)} {M : List (Addr × (Obj → Prop))} (F : Fx w mg mb g env V M h₁) (hg : ∀ b o, b ∉ M.map (·.1) → h.get? b = some o → g.get? b = some o) {a : Addr} (e : h₁.get? a = none) : h.get? a = none := by
  cases x : h.get? a with
  | none => rfl
  | some o =>
    by_cases hm : a ∈ M.map (·.1)
    · obtain ⟨p, hp, rfl⟩ := List.mem_map.mp hm
      obtain ⟨o', ho, _⟩ := F.own p hp
      rw [e] at ho; cases ho
    · have := F.keep _ _ (hg a o hm x)
      rw [e] at this; cases this
inductive PkAt (h : Heap) (nv tv : Int) (b : Bool) (v : Value) : Prop
  | mk (x dx : Addr) (f : Str → Option Value) (e : v = .ref x) (hx : h.get? x = some (instObj 111 dx)) (o : ∃ o, h.get? dx = some o ∧ ObjP 6 f o) (p : PkP nv tv b f)
theorem PkAt.up {h h' : Heap} {nv tv : Int} {b : Bool} {v : Value} (k : Sub h h') (p : PkAt h nv tv b v) : PkAt h' nv tv b v := let ⟨x, dx, f, e, a, c, q⟩ := p; ⟨x, dx, f, e, k _ _ a, own_up k c, q⟩
section
variable {w : World} {mg mb : Str → Option Value} {prog : Program} {A : Around} {E : Value → Shared → Prop} {s : Shared} {h g₀ : Heap} {tk n : Nat} {x dx d la l T : Addr} {nn nv tv : Int} {lg : Option Int} {f : Str → Option Value} {us : List Value} {b : Bool} {t1 t2 t3 : Tok} {kvs : List (Int × Value)}
inductive OnR (prog : Program) (w : World) (h : Heap) (dx d la : Addr) (nn nv tv : Int) (lg : Option Int) (b : Bool) (kvs : List (Int × Value)) (v : Value) (h' : Heap) : Prop
  | mk (p : NewPk h nv tv b v h') (f : ∃ f', (∃ o, h'.get? dx = some o ∧ ObjP 17 f' o) ∧ ScP d la nn lg f') (o : ∃ o, h'.get? d = some o ∧ DcP prog w (stored kvs nv v) o)
theorem on_sent_ct (R : Room (n+6) A) (W : Wd w mg mb g₀) (k₀ : Sub g₀ h) (hx : g₀.get? x = some (instObj 256 dx)) (hdx : ∃ o, h.get? dx = some o ∧ ObjP 17 f o) (hg₀ : g₀.get? dx = none) (hdd : ∃ o, h.get? d = some o ∧ DcP prog w kvs o) (hg₁ : g₀.get? d = none) (hne : dx ≠ d) (hkl : kvs.length ≤ 100) (P : ScP d la nn lg f)
    (hl : IsL g₀ l [.ref T]) (hT : IsT g₀ T us) (hf : FrP b us) :
    wpAny (model prog w) A (call (.ref 178) [.ref x, .int nv t1, .int tv t2, .int 50 t3, .ref l]) (Post s h [dx, d] (OnR prog w h dx d la nn nv tv lg b kvs)) (fun _ _ => False) (upd s h tk) := by
  refine enter (V := [("self", some (.ref x)), ("number", some (.int nv t1)), ("now", some (.int tv t2)), ("size", some (.int 50 t3)), ("frames", some (.ref l)), ("packet", none)]) (M := [(dx, ObjP 17 f), (d, DcP prog w kvs)]) R W k₀ rfl ?hcd rfl rfl rfl rfl rfl ?hkind ?hcn rfl rfl rfl ?hV ?hVn ?hM (by simp [hne]) ?q
  walk_at "facts"
  case hM => intro p hp; simp only [List.mem_cons, List.not_mem_nil, or_false] at hp; rcases hp with rfl | rfl; exact ⟨hdx, hg₀⟩; exact ⟨hdd, hg₁⟩
  intro L h₁ tk₁ g kg hg _ _ _ F R'
  have hxg := kg _ _ hx
  have hlg := hl.up kg
  have hTg := hT.up kg
  have hs := P.sent
  obtain ⟨vle, hle⟩ := P.le
  repeat walk_at "s"
  refine Post.use (sp_new (n := n) R' F.wdh (hlg.up F.keep) (hTg.up F.keep) hf) fun v h₆ tk₆ k₆ e₆ => ?_
  obtain ⟨px, pdx, pf, rfl, hpn, hpx, hpdx, ex, ⟨od, eo, ep⟩, pp⟩ := e₆
  refine Fx.refrc F k₆.sub ?_
  intro g' kg' F₂ frz
  have ex := frz _ _ hpx ex
  have eo := frz _ _ hpdx eo
  have hxg := kg' _ _ hxg
  have hpd : ∃ o, g'.get? pdx = some o ∧ ObjP 6 pf o := ⟨od, eo, ep⟩
  have hel := pp.el
  repeat walk_at "s"
  have bk : ∀ {hx : Heap} {env V M}, Fx w mg mb g' env V M hx → But [dx, d] h hx := fun F₅ => F₅.toRd.but fun b o n e => kg' _ _ (hg b o n e)
  refine Ways.of (fun hb => ?_) (fun hb => ?_)
  · subst hb
    repeat walk_at "s"
    rename Fx _ _ _ _ _ _ _ _ => F₃
    exact Post.mk' (bk F₃) ⟨⟨px, pdx, pf, rfl, hpn, F.back hg hpx, F.back hg hpdx, F₃.keep _ _ ex, own_up F₃.keep hpd, pp⟩, ⟨_, F₃.ownAt .head, P.set_le⟩, F₃.ownAt (.tail .head)⟩
  · subst hb
    repeat walk_at "s"
    rename Fx _ _ _ _ _ _ _ _ => F₃
    exact Post.mk' (bk F₃) ⟨⟨px, pdx, pf, rfl, hpn, F.back hg hpx, F.back hg hpdx, F₃.keep _ _ ex, own_up F₃.keep hpd, pp⟩, ⟨_, F₃.ownAt .head, P⟩, F₃.ownAt (.tail .head)⟩
end
end PC13
section PC14
open PySem PySem.W PyProof.Rows PySem.Calls
set_option Elab.async false
set_option linter.unusedVariables false
set_option maxRecDepth 100000
set_option maxHeartbeats 4000000
section
variable {w : World} {mg mb : Str → Option Value} {prog : Program} {A : Around} {E : Value → Shared → Prop} {s : Shared} {h g₀ : Heap} {tk n : Nat} {x dx d la l T : Addr} {nn nv tv : Int} {lg : Option Int} {f : Str → Option Value} {us : List Value} {b : Bool} {t1 t2 t3 : Tok} {kvs : List (Int × Value)}
theorem acked_by_ct {vs : List Value} {ds : List (Int × Int)} (R : Room (n+6) A) (W : Wd w mg mb h) (hx : h.get? x = some (instObj 256 dx)) (hdx : ∃ o, h.get? dx = some o ∧ ObjP 17 f o) (hdd : ∃ o, h.get? d = some o ∧ DcP prog w kvs o) (hm : (d == sysModules) = false) (hkl : kvs.length ≤ 32) (P : ScP d la nn lg f)
    (hs : (kvs.map (·.1)).Pairwise (· < ·)) (hl : IsL h l vs) (ht : Tups PrG ds vs h) (h64 : ds.length ≤ 64) :
    wpAny (model prog w) A (call (.ref 190) [.ref x, .ref l]) (Post s h [] (NewL h ((kvs.map (·.1)).filter (hasN ds)))) (fun _ _ => False) (upd s h tk) := by
  refine enter (V := [("self", some (.ref x)), ("ranges", some (.ref l))]) (M := []) R W (Sub.rfl' _) rfl ?hcd rfl rfl rfl rfl rfl ?hkind ?hcn rfl rfl rfl ?hV ?hVn (List.forall_mem_nil _) List.nodup_nil ?q
  walk_at "facts"
  intro L h₁ tk₁ g kg hg _ _ _ F R'
  have hxg := kg _ _ hx
  have hdg := own_up kg hdx
  have hddg := own_up kg hdd
  have hsn := P.sent
  repeat walk_at "s"
  refine b_listd R' (own_up F.keep hddg) hm (by omega) fun D h₂ tk₂ vl c k₂ hD e hI => ?_
  have hDn := F.back hg hD
  have k₁ : Sub h h₂ := fun b o e => k₂ _ _ (F.keep _ _ (hg b o (by simp) e))
  have F := F.ext k₂
  have hlD : IsL h₂ D vl := ⟨_, e, rfl, c, rfl⟩
  repeat walk_at "s"
  refine Post.use (newly_acked_ct (n := n) (R'.less (by omega)) F.wdh hlD hI hs (by simpa using hkl) ((hl.up kg).up F.keep) ((ht.up kg).up F.keep) h64) fun v h₆ tk₆ k₆ e₆ => ?_
  obtain ⟨a, vs', rfl, ha, ho, hi⟩ := e₆
  have F := F.ext k₆.sub
  repeat walk_at "s"
  exact Post.mk' (F.toRd.but hg) ⟨a, vs', rfl, none_back k₁ ha, ho, hi⟩
theorem addGo_len : ∀ (ds f : List (Int × Int)) (isin : Bool) (lo hi : Int), (addGo ds f isin lo hi).length ≤ ds.length + f.length + 1
  | [], f, isin, lo, hi => by simp only [addGo, addF]; split <;> simp
  | one :: r, f, isin, lo, hi => by
    rw [addGo_cons]
    split
    · refine Nat.le_trans (addGo_len r _ _ _ _) ?_; simp; try omega
    · split
      · cases isin
        · have : addGo r (addF f false lo hi ++ [one]) true lo hi = addGo r (f ++ [(lo, hi)] ++ [one]) true lo hi := rfl
          rw [this]
          have := addGo_len2 r (f ++ [(lo, hi)] ++ [one]) lo hi
          simp at this ⊢; omega
        · refine Nat.le_trans (addGo_len r _ _ _ _) ?_; simp [addF]; try omega
      · refine Nat.le_trans (addGo_len r _ _ _ _) ?_; simp; try omega
where
  addGo_len2 : ∀ (ds f : List (Int × Int)) (lo hi : Int), (addGo ds f true lo hi).length ≤ ds.length + f.length
  | [], f, lo, hi => by simp [addGo, addF]
  | one :: r, f, lo, hi => by
    rw [addGo_cons]
    split
    · refine Nat.le_trans (addGo_len2 r _ _ _) ?_; simp; omega
    · split
      · refine Nat.le_trans (addGo_len2 r _ _ _) ?_; simp [addF]; omega
      · refine Nat.le_trans (addGo_len2 r _ _ _) ?_; simp
noncomputable def addAll (least : Int) (ads ds : List (Int × Int)) : List (Int × Int) := ds.foldl (fun acc p => if least ≤ p.2 then addGo acc [] false p.1 p.2 else acc) ads
theorem addAll_len (least : Int) : ∀ (ds ads : List (Int × Int)), (addAll least ads ds).length ≤ ads.length + ds.length
  | [], ads => by simp [addAll]
  | p :: ds, ads => by
    show (addAll least (if least ≤ p.2 then addGo ads [] false p.1 p.2 else ads) ds).length ≤ _
    refine Nat.le_trans (addAll_len least ds _) ?_
    split
    · have := addGo_len ads [] false p.1 p.2
      simp at this ⊢; omega
    · simp only [List.length_cons]; omega
noncomputable def noHeap : Heap := { objs := #[] }
theorem noHeap_or {h : Heap} {T : Addr} {us : List Value} (c : h.get? T = none ∨ IsT noHeap T us) : h.get? T = none := by
  rcases c with c | ⟨o, e, _⟩
  · exact c
  · have : noHeap.get? T = none := by
      simp [noHeap, Heap.get?]
    rw [this] at e; cases e
inductive NrR (h : Heap) (dx d : Addr) (nn : Int) (lg : Option Int) (ds : List (Int × Int)) (v : Value) (h' : Heap) : Prop
  | mk (e : v = .none) (f' : Str → Option Value) (la' : Addr) (va' : List Value) (o : ∃ o, h'.get? dx = some o ∧ ObjP 17 f' o) (p : ScP d la' nn lg f') (n : h.get? la' = none) (l : IsL h' la' va') (t : NewTs h PrG [] ds va' h')
inductive NrV (s : Shared) (h₁ : Heap) (least : Int) (v : Value) (s' : Shared) : Prop
  | mk (h' : Heap) (t : Tok) (tk' : Nat) (e : v = .int least t) (e' : s' = upd s h' tk') (k : Sub h₁ h')
inductive NrJ (x dx d l : Addr) (nn least : Int) (tl : Tok) (lg : Option Int) (ads ds : List (Int × Int)) (i : Nat) (g' : Heap) (V : List (Str × Option Value)) (M : List (Addr × (Obj → Prop))) : Prop
  | mk (f' : Str → Option Value) (la' : Addr) (va' : List Value) (v1 v2 : Option Value) (eM : M = [(dx, ObjP 17 f')]) (p : ScP d la' nn lg f') (l' : IsL g' la' va') (t : Tups PrG (addAll least ads (ds.take i)) va' g')
      (eV : V = ([("self", some (.ref x)), ("ranges", some (.ref l)), ("least", some (.int least tl)), ("low", v1), ("high", v2)] : List (Str × Option Value)))
theorem note_ranges_ct {vs va : List Value} {ds ads : List (Int × Int)} {least : Int} (R : Room (n+4) A) (W : Wd w mg mb g₀) (k₀ : Sub g₀ h) (hx : g₀.get? x = some (instObj 256 dx)) (hdx : ∃ o, h.get? dx = some o ∧ ObjP 17 f o) (hg₀ : g₀.get? dx = none) (hdd : ∃ o, h.get? d = some o ∧ DcP prog w kvs o) (hne : d ≠ dx) (hm : (d == sysModules) = false) (hkl : kvs.length ≤ 32) (P : ScP d la nn lg f)
    (hlst : if kvs = [] then least = nn else least ∈ kvs.map (·.1) ∧ ∀ k ∈ kvs.map (·.1), least ≤ k) (hl : IsL g₀ l vs) (ht : Tups PrG ds vs g₀) (hla : IsL g₀ la va) (hta : Tups PrG ads va g₀) (h64 : ads.length + ds.length ≤ 60) :
    wpAny (model prog w) A (call (.ref 204) [.ref x, .ref l]) (Post s h [dx] (NrR h dx d nn lg (pruneD (addAll least ads ds) least))) (fun _ _ => False) (upd s h tk) := by
  refine enter (V := [("self", some (.ref x)), ("ranges", some (.ref l)), ("least", none), ("low", none), ("high", none)]) (M := [(dx, ObjP 17 f)]) R W k₀ rfl ?hcd rfl rfl rfl rfl rfl ?hkind ?hcn rfl rfl rfl ?hV ?hVn ?hM (by simp) ?q
  walk_at "facts"
  case hM => intro p hp; rw [List.mem_singleton.mp hp]; exact ⟨hdx, hg₀⟩
  intro L h₁ tk₁ g kg hg _ _ _ F R'
  have hxg := kg _ _ hx
  have hlg := hl.up kg
  have htg := ht.up kg
  have hddg : ∃ o, g.get? d = some o ∧ DcP prog w kvs o := let ⟨o, e, p⟩ := hdd; ⟨o, hg d o (by simpa using hne) e, p⟩
  have hsn := P.sent
  obtain ⟨tnn, hnn⟩ := P.nn
  have hvl : vs.length = ds.length := (Paired.length ht).symm
  repeat walk_at "s"
  refine b_lend (own_up F.keep hddg) hm (by omega) fun tl tk₂ => ?_
  repeat walk_at "s"
  refine Ways.join (NrV s h₁ least) (Ways.dec (fun hb => ?_) fun hb => ?_) ?_
  · have hk : kvs ≠ [] := by rintro rfl; simp at hb
    rw [if_neg hk] at hlst
    repeat walk_at "s"
    refine b_mind R' (own_up F.keep hddg) hm hk fun h' m t tk' k' h1 h2 => ?_
    have : m = least := Int.le_antisymm (h2 _ hlst.1) (hlst.2 _ h1)
    exact ⟨h', t, tk', by rw [this], rfl, k'⟩
  · have hk : kvs = [] := by
      cases kvs with
      | nil => rfl
      | cons _ _ => exact absurd (by simp only [List.length_cons]; omega) hb
    rw [if_pos hk] at hlst
    repeat walk_at "s"
    exact ⟨_, _, _, by rw [hlst], rfl, Sub.rfl' _⟩
  · rintro v s'' ⟨h₂, tl, tk₂, rfl, rfl, k₂⟩
    have F := F.ext k₂
    repeat walk_at "s"
    rename Fx _ _ _ _ _ _ _ _ => F
    refine forL (NrJ x dx d l nn least tl lg ads ds)
      F (src_l R'.handled hlg F.keep) ⟨f, la, va, _, _, rfl, P, hla.up kg, hta.up kg, rfl⟩ ?turn ?done
    case done =>
      rintro g₁ V₁ M₁ h₃ tk₃ ⟨f', la', va', v1, v2, rfl, P', hla', hta', rfl⟩ k₃ F₃
      have hxg := k₃ _ _ hxg
      have hak := P'.ack
      rw [hvl, List.take_length] at hta'
      repeat walk_at "s"
      refine Post.use (prune_ct (n := n) (g₀ := noHeap) (R'.less (by omega)) F₃.wdh (hla'.up F₃.keep) (hta'.up F₃.keep) (by have := addAll_len least ds ads; omega)) fun v h₆ tk₆ k₆ e₆ => ?_
      obtain ⟨a, vs', rfl, ha, ⟨c, ho⟩, hi⟩ := e₆
      refine Fx.refrc F₃ k₆.sub ?_
      intro g' kg' F₄ frz
      have hxg := kg' _ _ hxg
      have ho := frz _ _ ha ho
      have hts : NewTs h PrG [] _ vs' g' := Paired.mono (fun _ _ ⟨T, us, a, b, c, e⟩ => ⟨T, us, a, List.not_mem_nil, F₃.back (fun b o n e => k₃ _ _ (hg b o n e)) (noHeap_or c), let ⟨o, ho, r⟩ := b; ⟨o, frz _ _ (noHeap_or c) ho, r⟩, e⟩) hi
      have hb : h.get? a = none := F₃.back (fun b o n e => k₃ _ _ (hg b o n e)) ha
      repeat walk_at "s"
      rename Fx _ _ _ _ _ _ _ _ => F₅
      exact Post.mk' (F₅.toRd.but fun b o n e => kg' _ _ (k₃ _ _ (hg b o n e))) ⟨rfl, _, a, vs', F₅.ownAt .head, P'.set_ack, hb, ⟨_, F₅.keep _ _ ho, rfl, c, rfl⟩, hts.sub F₅.keep⟩
    case turn =>
      rintro i v g₁ V₁ M₁ h₃ tk₃ I oI hi hv ⟨f', la', va', v1, v2, rfl, P', hla', hta', rfl⟩ k₃ F₃
      obtain ⟨⟨d1, d2⟩, T, us, hd1, rfl, hT, tn, tt, rfl⟩ := htg.get i v hv
      have hT₁ := hT.up k₃
      have hxg := k₃ _ _ hxg
      have hak := P'.ack
      have hst : addAll least ads (ds.take (i + 1)) = if least ≤ d2 then addGo (addAll least ads (ds.take i)) [] false d1 d2 else addAll least ads (ds.take i) := by
        unfold addAll; rw [foldl_take _ _ _ _ _ hd1]
      have hal := addAll_len least (ds.take i) ads
      have hal2 : (ds.take i).length ≤ ds.length := by rw [List.length_take]; omega
      generalize addAll least ads (ds.take i) = cur at hta' hal hst
      repeat walk_at "s"
      refine Ways.dec (fun hb => ?_) (fun hb => ?_)
      · rw [if_pos hb] at hst
        repeat walk_at "s"
        rename Fx _ _ _ _ _ _ _ _ => F₄
        refine Post.use (add_range_ct (n := n) (R'.less (by omega)) F₄.wd F₄.keep hla' hta' (by omega)) fun v h₆ tk₆ k₆ e₆ => ?_
        obtain ⟨a, vs', rfl, ha, ⟨c, ho⟩, hi⟩ := e₆
        refine Fx.refrc F₄ k₆.sub ?_
        intro g' kg' F₅ frz
        have hxg := kg' _ _ hxg
        have ho := frz _ _ ha ho
        repeat walk_at "s"
        rename Fx _ _ _ _ _ _ _ _ => F₆
        refine TurnE.nxt F₆ kg' ⟨_, a, vs', _, _, rfl, P'.set_ack, ⟨_, ho, rfl, c, rfl⟩, by rw [hst]; exact hi.froz kg' frz, rfl⟩
      · rw [if_neg hb] at hst
        repeat walk_at "s"
        rename Fx _ _ _ _ _ _ _ _ => F₄
        exact TurnE.nxt F₄ (Sub.rfl' _) ⟨f', la', va', _, _, rfl, P', hla', by rw [hst]; exact hta', rfl⟩
end
end PC14
section PC15
open PySem PySem.W PyProof.Rows PySem.Calls
set_option Elab.async false
set_option linter.unusedVariables false
set_option maxRecDepth 100000
set_option maxHeartbeats 4000000
theorem valueAt_of : ∀ {kvs : List (Int × Value)} {i : Nat} {k : Int} {v : Value}, (kvs.map (·.1)).Nodup → kvs[i]? = some (k, v) → valueAt kvs k = some v
  | [], _, _, _, _, h => by simp at h
  | p :: r, 0, k, v, hn, h => by
    simp only [List.getElem?_cons_zero, Option.some.injEq] at h; subst h; simp [valueAt]
  | p :: r, i + 1, k, v, hn, h => by
    simp only [List.map_cons, List.nodup_cons] at hn
    have h' : r[i]? = some (k, v) := by simpa using h
    have := valueAt_of hn.2 h'
    have hm : k ∈ r.map (·.1) := List.mem_map.mpr ⟨_, List.mem_of_getElem? h', rfl⟩
    have : p.1 ≠ k := fun e => hn.1 (e ▸ hm)
    unfold valueAt at *
    rw [List.find?_cons]
    simp only [this, decide_false]
    assumption
theorem stored_new {kvs : List (Int × Value)} {k : Int} {v : Value} (h : k ∉ kvs.map (·.1)) : stored kvs k v = kvs ++ [(k, v)] := by
  unfold stored
  rw [if_neg]
  simp only [List.any_eq_true, decide_eq_true_eq, not_exists, not_and]
  rintro p hp rfl
  exact h (List.mem_map.mpr ⟨p, hp, rfl⟩)
theorem not_mem_take {l : List Int} (hn : l.Nodup) {i : Nat} {a : Int} (h : l[i]? = some a) : a ∉ l.take i := by
  intro hm
  obtain ⟨j, hj, e⟩ := List.mem_iff_getElem.mp hm
  have hj' : j < i ∧ j < l.length := by rw [List.length_take] at hj; omega
  obtain ⟨hi, e2⟩ := List.getElem?_eq_some_iff.mp h
  have e3 : l[j] = l[i] := by rw [e2, ← e]; simp
  exact (List.pairwise_iff_getElem.mp hn) j i hj'.2 hi hj'.1 e3
noncomputable def Pks (h : Heap) (ps : List (Int × Int × Bool)) (kvs : List (Int × Value)) : Prop := Paired (fun p kv => kv.1 = p.1 ∧ PkAt h p.1 p.2.1 p.2.2 kv.2) ps kvs
theorem Pks.up {h h' : Heap} {ps : List (Int × Int × Bool)} {kvs : List (Int × Value)} (k : Sub h h') (x : Pks h ps kvs) : Pks h' ps kvs := Paired.mono (fun _ _ ⟨a, b⟩ => ⟨a, b.up k⟩) x
theorem Pks.keys {h : Heap} {ps : List (Int × Int × Bool)} {kvs : List (Int × Value)} (x : Pks h ps kvs) : kvs.map (·.1) = ps.map (·.1) := by
  induction x with
  | nil => rfl
  | cons a _ ih => simp only [List.map_cons, a.1, ih]
theorem paired_get {α β : Type} {R : α → β → Prop} {xs : List α} {ys : List β} (x : Paired R xs ys) : ∀ (i : Nat) (y : β), ys[i]? = some y → ∃ a, xs[i]? = some a ∧ R a y := by
  induction x with
  | nil => intro i y hi; cases hi
  | cons a _ ih =>
    intro i y hi
    cases i with
    | zero => cases hi; exact ⟨_, rfl, a⟩
    | succ i => exact ih i y hi
noncomputable def RowT (p : Int × Int × Bool) (us : List Value) : Prop := ∃ t u, us = [.int p.2.1 t, .int 50 u, .bool p.2.2, .bool true]
noncomputable def RowsN (h : Heap) (ps : List (Int × Int × Bool)) (kvs : List (Int × Value)) (h' : Heap) : Prop := Paired (fun p kv => kv.1 = p.1 ∧ ∃ T us, kv.2 = .ref T ∧ h.get? T = none ∧ IsT h' T us ∧ RowT p us) ps kvs
theorem RowsN.up {h g h' : Heap} {ps : List (Int × Int × Bool)} {kvs : List (Int × Value)} (k : Sub g h') (x : RowsN h ps kvs g) : RowsN h ps kvs h' := Paired.mono (fun _ _ ⟨a, T, us, b, c, d, e⟩ => ⟨a, T, us, b, c, d.up k, e⟩) x
theorem RowsN.keys {h g : Heap} {ps : List (Int × Int × Bool)} {kvs : List (Int × Value)} (x : RowsN h ps kvs g) : kvs.map (·.1) = ps.map (·.1) := by
  induction x with
  | nil => rfl
  | cons a _ ih => simp only [List.map_cons, a.1, ih]
section
variable {w : World} {mg mb : Str → Option Value} {prog : Program} {A : Around} {E : Value → Shared → Prop} {s : Shared} {h g₀ : Heap} {tk n : Nat} {x dx d la l T : Addr} {nn nv tv : Int} {lg : Option Int} {f : Str → Option Value} {us : List Value} {b : Bool} {t1 t2 t3 : Tok} {kvs : List (Int × Value)}
inductive SrJ (prog : Program) (w : World) (h : Heap) (x : Addr) (ps : List (Int × Int × Bool)) (i : Nat) (g' : Heap) (V : List (Str × Option Value)) (M : List (Addr × (Obj → Prop))) : Prop
  | mk (D : Addr) (kvs' : List (Int × Value)) (v1 v2 : Option Value) (eM : M = [(D, DcP prog w kvs')]) (hm : (D == sysModules) = false) (hr : RowsN h (ps.take i) kvs' g') (eV : V = ([("self", some (.ref x)), ("found", some (.ref D)), ("number", v1), ("packet", v2)] : List (Str × Option Value)))
inductive SrR (prog : Program) (w : World) (h : Heap) (ps : List (Int × Int × Bool)) (v : Value) (h' : Heap) : Prop
  | mk (D : Addr) (kvs' : List (Int × Value)) (e : v = .ref D) (n : h.get? D = none) (hm : (D == sysModules) = false) (o : ∃ o, h'.get? D = some o ∧ DcP prog w kvs' o) (r : RowsN h ps kvs' h')
theorem sent_rows_ct {ps : List (Int × Int × Bool)} (R : Room (n+2) A) (W : Wd w mg mb h) (hx : h.get? x = some (instObj 256 dx)) (hdx : ∃ o, h.get? dx = some o ∧ ObjP 17 f o) (hdd : ∃ o, h.get? d = some o ∧ DcP prog w kvs o) (hm : (d == sysModules) = false) (hkl : kvs.length ≤ 32) (P : ScP d la nn lg f) (hp : Pks h ps kvs) :
    wpAny (model prog w) A (call (.ref 246) [.ref x]) (Post s h [] (SrR prog w h ps)) (fun _ _ => False) (upd s h tk) := by
  refine enter (V := [("self", some (.ref x)), ("found", none), ("number", none), ("packet", none)]) (M := []) R W (Sub.rfl' _) rfl ?hcd rfl rfl rfl rfl rfl ?hkind ?hcn rfl rfl rfl ?hV ?hVn (List.forall_mem_nil _) List.nodup_nil ?q
  walk_at "facts"
  intro L h₁ tk₁ g kg hg _ _ _ F R'
  have hxg := kg _ _ hx
  have hdg := own_up kg hdx
  have hddg := own_up kg hdd
  have hpg := hp.up kg
  have hsn := P.sent
  have hnd : (kvs.map (·.1)).Nodup := by obtain ⟨o, _, es, ep, _, _, _, _, r⟩ := hdd; exact r
  obtain ⟨ep, hat⟩ := (dc_of hddg).dictAt
  have hpl : ps.length = kvs.length := Paired.length hp
  repeat walk_at "s"
  rename Fx _ _ _ _ _ _ _ _ => F
  refine forL (SrJ prog w h x ps)
    F (src_d R'.handled hm hat F.keep) ⟨_, _, _, _, rfl, by assumption, .nil, rfl⟩ ?turn ?done
  case done =>
    rintro g₁ V₁ M₁ h₃ tk₃ ⟨D, kvs', v1, v2, rfl, hms, hr, rfl⟩ k₃ F₃
    rw [← hpl, List.take_length] at hr
    repeat walk_at "s"
    exact Post.mk' (F₃.toRd.but fun b o n e => k₃ _ _ (hg b o n e)) ⟨D, kvs', rfl, none_back (fun b o e => k₃ _ _ (hg b o (by simp) e)) (F₃.fresh .head), hms, F₃.ownAt .head, hr.up F₃.keep⟩
  case turn =>
    rintro i v g₁ V₁ M₁ h₃ tk₃ I oI hi ⟨k, pv, t, hkv, rfl⟩ ⟨D, kvs', v1, v2, rfl, hms, hr, rfl⟩ k₃ F₃
    obtain ⟨⟨p1, p2, p3⟩, hp1, e1, px, pdx, pf, rfl, hpx, hpd, pp⟩ := paired_get hpg i _ hkv
    dsimp only at e1
    subst e1
    have hxg := k₃ _ _ hxg
    have hpx := k₃ _ _ hpx
    have hdg := own_up k₃ hdg
    have hpd := own_up k₃ hpd
    have hddg := own_up k₃ hddg
    have hva := valueAt_of hnd hkv
    obtain ⟨t4, ht⟩ := pp.time
    obtain ⟨t5, hsz⟩ := pp.size
    have hel := pp.el
    have hfl := pp.fl
    have hkl' : kvs'.length ≤ 1000 := by rw [← Paired.length hr, List.length_take]; omega
    have hk' : k ∉ kvs'.map (·.1) := by
      rw [hr.keys, List.map_take]
      refine not_mem_take (by rw [← hp.keys]; exact hnd) (by simp [hp1])
    repeat walk_at "s"
    rename Fx _ _ _ _ _ _ _ _ => F₄
    rw [stored_new hk'] at F₄
    have hT₀ : h.get? _ = none := none_back (fun b o e => k₃ _ _ (hg b o (by simp) e)) (F₄.fresh .head)
    refine Fx.frzc F₄ ?_
    rintro g₂ o k₂ ho hTP F₄
    have hT' := TupP.isT ho hTP
    refine TurnE.nxt F₄ k₂ ⟨D, _, _, _, rfl, hms, ?_, rfl⟩
    rw [List.take_add_one, hp1]
    exact Paired.snoc (hr.up k₂) ⟨rfl, _, _, rfl, hT₀, hT', _, _, rfl⟩
end
end PC15
section PC16
open PySem PySem.W PyProof.Rows PySem.Calls
set_option Elab.async false
set_option linter.unusedVariables false
set_option maxRecDepth 100000
set_option maxHeartbeats 4000000
noncomputable def lostP (largest now delay : Int) (p : Int × Int × Bool) : Bool := decide (p.1 ≤ largest) && (decide (largest ≥ p.1 + 3) || decide (p.2.1 + delay ≤ now))
noncomputable def lostN (ps : List (Int × Int × Bool)) (largest now delay : Int) : List Int := (ps.filter (lostP largest now delay)).map (·.1)
noncomputable def Rows (h : Heap) (ps : List (Int × Int × Bool)) (kvs : List (Int × Value)) : Prop := Paired (fun p kv => kv.1 = p.1 ∧ ∃ T us, kv.2 = .ref T ∧ IsT h T us ∧ RowT p us) ps kvs
theorem Rows.up {h h' : Heap} {ps : List (Int × Int × Bool)} {kvs : List (Int × Value)} (k : Sub h h') (x : Rows h ps kvs) : Rows h' ps kvs := Paired.mono (fun _ _ ⟨a, T, us, b, d, e⟩ => ⟨a, T, us, b, d.up k, e⟩) x
theorem Rows.keys {h : Heap} {ps : List (Int × Int × Bool)} {kvs : List (Int × Value)} (x : Rows h ps kvs) : kvs.map (·.1) = ps.map (·.1) := by
  induction x with
  | nil => rfl
  | cons a _ ih => simp only [List.map_cons, a.1, ih]
theorem paired_at {α β : Type} {R : α → β → Prop} {xs : List α} {ys : List β} (x : Paired R xs ys) : ∀ (i : Nat) (a : α), xs[i]? = some a → ∃ y, ys[i]? = some y ∧ R a y := by
  induction x with
  | nil => intro i y hi; cases hi
  | cons a _ ih =>
    intro i y hi
    cases i with
    | zero => cases hi; exact ⟨_, rfl, a⟩
    | succ i => exact ih i y hi
section
variable {w : World} {mg mb : Str → Option Value} {prog : Program} {A : Around} {E : Value → Shared → Prop} {s : Shared} {h g₀ : Heap} {tk n : Nat} {d : Addr} {t1 t2 t3 : Tok} {kvs : List (Int × Value)}
inductive LostR (h : Heap) (ns : List Int) (v : Value) (h' : Heap) : Prop
  | mk (T D : Addr) (vs : List Value) (y : Value) (e : v = .ref T) (n1 : h.get? T = none) (n2 : h.get? D = none) (i1 : IsT h' T [.ref D, y]) (i2 : IsL h' D vs) (i3 : IntsAre vs ns)
inductive LostJ (d : Addr) (lg now dl : Int) (t1 t2 t3 : Tok) (ps : List (Int × Int × Bool)) (i : Nat) (g : Heap) (V : List (Str × Option Value)) (M : List (Addr × (Obj → Prop))) : Prop
  | mk (D : Addr) (ys : List Value) (y : Value) (v1 v2 : Option Value) (eM : M = [(D, LstP ys)]) (hy : IntsAre ys (lostN (ps.take i) lg now dl)) (hy' : y = .none ∨ ∃ k t, y = .int k t) (eV : V = ([("sent", some (.ref d)), ("largest", some (.int lg t1)), ("now", some (.int now t2)), ("delay", some (.int dl t3)), ("lost", some (.ref D)), ("later", some y), ("number", v1), ("sent_at", v2)] : List (Str × Option Value)))
theorem detect_lost_ct {ps : List (Int × Int × Bool)} {lg now dl : Int} (R : Room (n+3) A) (W : Wd w mg mb h) (hdd : ∃ o, h.get? d = some o ∧ DcP prog w kvs o) (hm : (d == sysModules) = false) (hkl : kvs.length ≤ 32) (hp : Rows h ps kvs) (hs : (ps.map (·.1)).Pairwise (· < ·)) :
    wpAny (model prog w) A (call (.ref 35) [.ref d, .int lg t1, .int now t2, .int dl t3]) (Post s h [] (LostR h (lostN ps lg now dl))) (fun _ _ => False) (upd s h tk) := by
  refine enter (V := [("sent", some (.ref d)), ("largest", some (.int lg t1)), ("now", some (.int now t2)), ("delay", some (.int dl t3)), ("lost", none), ("later", none), ("number", none), ("sent_at", none)]) (M := []) R W (Sub.rfl' _) rfl ?hcd rfl rfl rfl rfl rfl ?hkind ?hcn rfl rfl rfl ?hV ?hVn (List.forall_mem_nil _) List.nodup_nil ?q
  walk_at "facts"
  intro L h₁ tk₁ g kg hg _ _ _ F R'
  have hddg := own_up kg hdd
  have hpg := hp.up kg
  have hnd : (kvs.map (·.1)).Nodup := by obtain ⟨o, _, es, ep, _, _, _, _, r⟩ := hdd; exact r
  have hpl : ps.length = kvs.length := Paired.length hp
  repeat walk_at "s"
  rename Fx _ _ _ _ _ _ _ _ => F
  have F := F.forget (List.sublist_cons_self _ _)
  refine b_sortd R' (own_up F.keep hddg) hm (by omega) fun a h₂ tk₂ out ns' c k₂ ha ho hi hpm hpw => ?_
  have hu : ns' = ps.map (·.1) := sorted_uniq (by rw [← hp.keys]; exact hpm) hpw (hs.imp fun h => Int.le_of_lt h)
  subst hu
  have F := F.adopt (P := LstP out) k₂ ha ho ⟨c, rfl⟩
  refine Fx.frzc F ?_
  rintro g' o' kg' ho' ⟨c', rfl⟩ F
  have hsrc : IsL g' a out := ⟨_, ho', rfl, c', rfl⟩
  have hol : out.length = ps.length := by rw [hi.length]; simp
  refine forL (LostJ d lg now dl t1 t2 t3 ps)
    F (src_l R'.handled hsrc F.keep) ⟨_, _, _, _, _, rfl, .nil, .inl rfl, rfl⟩ ?turn ?done
  case done =>
    rintro g₁ V₁ M₁ h₃ tk₃ ⟨D, ys, y, v1, v2, rfl, hy, hy', rfl⟩ k₃ F₃
    rw [hol, List.take_length] at hy
    have hnew : ∀ a, g₁.get? a = none → h.get? a = none := fun a e => none_back (fun b o e => k₃ _ _ (kg' _ _ (hg b o (by simp) e))) e
    repeat walk_at "s"
    rename Fx _ _ _ _ _ _ _ _ => F₄
    exact Post.mk' (F₄.toRd.but fun b o n e => k₃ _ _ (kg' _ _ (hg b o n e))) ⟨_, D, ys, y, rfl, hnew _ (F₄.fresh .head), hnew _ (F₄.fresh (.tail .head)), F₄.isT .head, F₄.isL (.tail .head), hy⟩
  case turn =>
    rintro i v g₁ V₁ M₁ h₃ tk₃ I oI hin hv ⟨D, ys, y, v1, v2, rfl, hy, hy', rfl⟩ k₃ F₃
    obtain ⟨⟨p1, p2, p3⟩, hp1⟩ : ∃ p, ps[i]? = some p := ⟨ps[i]'(by omega), by simp⟩
    obtain ⟨t, ht⟩ := hi.get i p1 (by simp [hp1])
    rw [ht] at hv; cases hv
    obtain ⟨⟨k, pv⟩, hkv, e1, T, us, e2, hT, t4, t5, rfl⟩ := paired_at hpg i _ hp1
    dsimp only at e1 e2
    subst e1 e2
    have hT := hT.up (kg'.trans k₃)
    have hddg := own_up (kg'.trans k₃) hddg
    have hva := valueAt_of hnd hkv
    have hyl : ys.length ≤ 1000 := by
      rw [hy.length]; unfold lostN; rw [List.length_map]; refine Nat.le_trans (List.length_filter_le _ _) ?_; rw [List.length_take]; omega
    have hst : lostN (ps.take (i + 1)) lg now dl = lostN (ps.take i) lg now dl ++ lostN [(k, p2, p3)] lg now dl := by
      unfold lostN; rw [List.take_add_one, hp1]; simp
    repeat walk_at "s"
    try refine Ways.no rfl ?_
    repeat walk_at "s"
    refine Ways.dec (fun hb => ?_) (fun hb => ?_)
    · repeat walk_at "s"
      rename Fx _ _ _ _ _ _ _ _ => F₄
      have : lostN [(k, p2, p3)] lg now dl = [] := by
        have : ¬ k ≤ lg := by omega
        simp [lostN, lostP, this]
      rw [this, List.append_nil] at hst
      exact TurnE.cnt F₄ (Sub.rfl' _) ⟨D, ys, y, _, _, rfl, by rw [hst]; exact hy, hy', rfl⟩
    · have hle : decide (k ≤ lg) = true := by simp; omega
      repeat walk_at "s"
      rename Fx _ _ _ _ _ _ _ _ => F₄
      refine Post.use (is_lost_ct (n := n) (R'.less (by omega)) F₄.wdh) fun v h₆ tk₆ k₆ e₆ => ?_
      subst e₆
      have F₄ := F₄.ext k₆.sub
      repeat walk_at "s"
      refine Ways.of (fun hc => ?_) (fun hc => ?_)
      · have : lostN [(k, p2, p3)] lg now dl = [k] := by
          simp only [lostN, List.filter_cons, lostP, hle, Bool.true_and]
          rw [hc]; rfl
        rw [this] at hst
        repeat walk_at "s"
        rename Fx _ _ _ _ _ _ _ _ => F₅
        exact TurnE.nxt F₅ (Sub.rfl' _) ⟨D, _, y, _, _, rfl, by rw [hst]; exact ints_snoc hy, hy', rfl⟩
      · have : lostN [(k, p2, p3)] lg now dl = [] := by
          simp only [lostN, List.filter_cons, lostP, hle, Bool.true_and]
          rw [hc]; rfl
        rw [this, List.append_nil] at hst
        rcases hy' with rfl | ⟨yk, yt, rfl⟩
        · repeat walk_at "s"
          try refine Ways.yes rfl ?_
          repeat walk_at "s"
          rename Fx _ _ _ _ _ _ _ _ => F₅
          exact TurnE.nxt F₅ (Sub.rfl' _) ⟨D, _, _, _, _, rfl, by rw [hst]; exact hy, .inr ⟨_, _, rfl⟩, rfl⟩
        · repeat walk_at "s"
          try refine Ways.no rfl ?_
          repeat walk_at "s"
          refine Ways.dec (fun hd => ?_) (fun hd => ?_)
          · repeat walk_at "s"
            rename Fx _ _ _ _ _ _ _ _ => F₅
            exact TurnE.nxt F₅ (Sub.rfl' _) ⟨D, _, _, _, _, rfl, by rw [hst]; exact hy, .inr ⟨_, _, rfl⟩, rfl⟩
          · repeat walk_at "s"
            rename Fx _ _ _ _ _ _ _ _ => F₅
            exact TurnE.nxt F₅ (Sub.rfl' _) ⟨D, _, _, _, _, rfl, by rw [hst]; exact hy, .inr ⟨_, _, rfl⟩, rfl⟩
end
end PC16
section PC17
open PySem PySem.W PyProof.Rows PySem.Calls
set_option Elab.async false
set_option linter.unusedVariables false
set_option maxRecDepth 100000
set_option maxHeartbeats 4000000
theorem comp_rd {w : World} {mg mb : Str → Option Value} {g h h₄ : Heap} {env : Env} {V V' : List (Str × Option Value)} {M : List (Addr × (Obj → Prop))} {scope : Scope} {cl : List (Str × Addr)} {C : Addr} {m : Str → Option Value} (F : Fx w mg mb g env V M h) (hk : scope.kind = .function) (hsub : Sub g h₄) (hn₄ : h₄.Ns (compEnvC scope cl C env).locals m)
    (hv : ∀ p ∈ V', VarIs (compEnvC scope cl C env) m h₄ p.1 p.2) : Rd w mg mb g (compEnvC scope cl C env) V' h₄ :=
  { fn := hk, gl := F.gl, bu := F.bu, wd := F.wd, keep := hsub, vars := ⟨m, hn₄, hv⟩ }
theorem fresh_of {g h : Heap} {a : Addr} (k : Sub g h) (e : h.get? a = none) : g.get? a = none := none_back k e
noncomputable def minusK (kvs : List (Int × Value)) (ns : List Int) : List (Int × Value) := kvs.filter fun kv => !ns.contains kv.1
theorem minusK_nil (kvs : List (Int × Value)) : minusK kvs [] = kvs := by simp [minusK]
theorem minusK_snoc (kvs : List (Int × Value)) (ns : List Int) (k : Int) : minusK kvs (ns ++ [k]) = without (minusK kvs ns) k := by
  unfold minusK without
  rw [List.filter_filter]
  congr 1
  funext kv
  simp [Bool.and_comm]
theorem without_none {kvs : List (Int × Value)} {k : Int} (h : (valueAt kvs k).isSome = false) : without kvs k = kvs := by
  refine without_of_not_mem kvs k fun hm => ?_
  obtain ⟨p, hp, rfl⟩ := List.mem_map.mp hm
  unfold valueAt at h
  rw [Option.isSome_map] at h
  have := List.find?_isSome (p := fun kv : Int × Value => decide (kv.1 = p.1)) (xs := kvs)
  rw [Bool.eq_false_iff] at h
  exact h (this.mpr ⟨p, hp, by simp⟩)
section
variable {w : World} {mg mb : Str → Option Value} {prog : Program} {A : Around} {E : Value → Shared → Prop} {s : Shared} {h g₀ : Heap} {tk n : Nat} {x dx d la l : Addr} {nn : Int} {lg : Option Int} {f : Str → Option Value} {kvs : List (Int × Value)}
theorem take_ct {vl : List Value} {ns : List Int} (R : Room (n+3) A) (W : Wd w mg mb g₀) (k₀ : Sub g₀ h) (hx : g₀.get? x = some (instObj 256 dx)) (hdx : ∃ o, g₀.get? dx = some o ∧ ObjP 17 f o) (hdd : ∃ o, h.get? d = some o ∧ DcP prog w kvs o) (hg₀ : g₀.get? d = none) (hm : (d == sysModules) = false) (hkl : kvs.length ≤ 32) (P : ScP d la nn lg f)
    (hl : IsL g₀ l vl) (hi : IntsAre vl ns) (hs : ns.Pairwise (· < ·)) (hnl : ns.length ≤ 32) :
    wpAny (model prog w) A (call (.ref 183) [.ref x, .ref l]) (Post s h [d] fun v h' => ∃ o, h'.get? d = some o ∧ DcP prog w (minusK kvs ns) o) (fun _ _ => False) (upd s h tk) := by
  refine enter (V := [("self", some (.ref x)), ("numbers", some (.ref l)), ("found", none)]) (M := [(d, DcP prog w kvs)]) R W k₀ rfl ?hcd rfl rfl rfl rfl rfl ?hkind ?hcn rfl rfl rfl ?hV ?hVn ?hM (by simp) ?q
  walk_at "facts"
  case hM => intro p hp; rw [List.mem_singleton.mp hp]; exact ⟨hdd, hg₀⟩
  intro L h₁ tk₁ g kg hg _ _ _ F R'
  have hxg := kg _ _ hx
  have hdg := own_up kg hdx
  have hlg := hl.up kg
  have hsn := P.sent
  repeat walk_at "s"
  walk_at "x_comp"
  repeat walk_at "s"
  rename Fx _ _ _ _ _ _ _ _ => F
  refine sorted_ints hi (by have := hi.length; omega) (fun Q' hq => collect_list (s := upd s h₁ tk₁) (hlg.up F.keep) (hq _ tk₁ ?_) (by have := hi.length; rw [sizeLine_eq]; omega)) fun a h₂ tk₂ out ns' c k₂ ha ho hio hp hpw => ?_
  · intro b o e
    rw [Heap.get?_update_other _ _ (by intro e'; rw [← e'] at e; exact Nat.lt_irrefl _ (Heap.lt_size e))]
    exact Heap.get?_push_of_some _ e
  have hu : ns' = ns := sorted_uniq hp hpw (hs.imp fun h => Int.le_of_lt h)
  subst hu
  have F := F.adopt (P := LstP out) k₂ ha ho ⟨c, rfl⟩
  refine Fx.frzc F ?_
  rintro g' o' kg' ho' ⟨c', rfl⟩ F
  have hsrc : IsL g' a out := ⟨_, ho', rfl, c', rfl⟩
  have hol : out.length = ns'.length := hio.length
  have hdn : g'.get? d = none := F.fresh .head
  have hdl : (h₂.get? d).isSome = true := by obtain ⟨o, e, _⟩ := F.ownAt .head; rw [e]; rfl
  obtain ⟨m₀, hns₀, hv₀⟩ := F.vars
  have hxg := kg' _ _ hxg
  have hdg := own_up kg' hdg
  refine comp_core (mods := [d]) (fun X i ys h' => (∃ o, h'.get? d = some o ∧ DcP prog w (minusK kvs (ns'.take i)) o) ∧ ys.length ≤ i) (src_l R'.handled hsrc F.keep) F.keep (by simpa using hdn) (by simpa using hdl) (by omega) (by decide +kernel) rfl ?hJs ?hJ0 ?hJl ?turn ?fin
  case hJs => rintro X i ys h₁ h₂ ⟨⟨o, e, p⟩, q⟩ k hX; exact ⟨⟨o, k d o (hX d (by simp)) e, p⟩, q⟩
  case hJ0 =>
    intro X h₁ k
    refine ⟨?_, Nat.le_refl _⟩
    rw [List.take_zero, minusK_nil]; exact own_up k (F.ownAt .head)
  case hJl => rintro X i ys h₁ ⟨_, q⟩ hin; omega
  case turn =>
    rintro C D I i v ys h₃ tk₃ m₃ hin hv ⟨hdc, hyl⟩ kb hC hD hI lC lD lI hn₃
    obtain ⟨k, hk⟩ : ∃ k, ns'[i]? = some k := ⟨ns'[i]'(by omega), by simp⟩
    obtain ⟨t, ht⟩ := hio.get i k hk
    rw [ht] at hv; cases hv
    rw [List.take_add_one, hk]
    show wpAny _ _ _ _ _ _
    refine wpAny_assign_Name (wpAny_storeName_local (lookup_relabel_local rfl) hn₃ (fun h₄ hn₄ hs₄ => ?_) (by rfl))
    have hdC : d ≠ C := fun e => by rw [e, hC] at hdl; cases hdl
    have hsub : Sub g' h₄ := fun b o e => hs₄.extBut b o (fun e' => by rw [show b = C from e', fresh_of F.keep hC] at e; cases e) (kb b o (by
      simp only [List.mem_cons, List.not_mem_nil, or_false, not_or]
      exact ⟨fun e' => (by rw [e', fresh_of F.keep hC] at e; cases e), fun e' => (by rw [e', fresh_of F.keep hD] at e; cases e), fun e' => (by rw [e', fresh_of F.keep hI] at e; cases e), fun e' => (by rw [e', hdn] at e; cases e)⟩) (F.keep b o e))
    have hdc' : ∃ o, h₄.get? d = some o ∧ DcP prog w (minusK kvs (ns'.take i)) o := let ⟨o, e, p⟩ := hdc; ⟨o, hs₄.extBut d o hdC e, p⟩
    have hself : ∃ c, List.lookup ("self" : Str) ([("self", L + 1)] : List (Str × Addr)) = some c ∧ h₄.IsCell c (some (.ref x)) := by
      rcases hv₀ ("self", some (.ref x)) (.head _) with ⟨a, _⟩ | ⟨_, c, y, z⟩
      · cases a
      · have hmem := mem_values_of_lookup y
        cases y
        refine ⟨L + 1, rfl, ?_⟩
        obtain ⟨oc, ec, rc⟩ := z
        have hcd : (L + 1 : Addr) ≠ d := by
          intro e
          have := (List.nodup_append.mp (List.nodup_cons.mp F.nd).2).2.2 (L + 1) hmem d (by simp)
          exact this e
        refine ⟨oc, hs₄.extBut _ _ (fun e' => by rw [show (L + 1 : Addr) = C from e', hC] at ec; cases ec) (kb _ _ ?_ ec), rc⟩
        simp only [List.mem_cons, List.not_mem_nil, or_false, not_or]
        exact ⟨fun e' => (by rw [e', hC] at ec; cases ec), fun e' => (by rw [e', hD] at ec; cases ec), fun e' => (by rw [e', hI] at ec; cases ec), hcd⟩
    obtain ⟨c, hcl, hcell⟩ := hself
    have G := comp_rd (V' := [("number", some (.int k t)), ("self", some (.ref x))]) F rfl hsub hn₄ (fun p hp => by
          simp only [List.mem_cons, List.not_mem_nil, or_false] at hp
          rcases hp with rfl | rfl
          · exact .inl ⟨lookup_relabel_local rfl, by simp⟩
          · exact .inr ⟨rfl, c, hcl, hcell⟩)
    show wpAny _ _ _ _ _ (upd s h₄ (tk₃ + 1))
    repeat walk_at "s"
    refine in_d hdc' hm fun tk' => ?_
    have hml : (minusK kvs (ns'.take i)).length ≤ 1000 := Nat.le_trans (List.length_filter_le _ _) (by omega)
    have bX : ∀ {h₅}, (∀ b o, b ≠ d → h₄.get? b = some o → h₅.get? b = some o) → But [C, d] h₃ h₅ := fun q b o hb e => by
      simp only [List.mem_cons, List.not_mem_nil, or_false, not_or] at hb
      exact q b o hb.2 (hs₄.extBut b o hb.1 e)
    repeat walk_at "s"
    refine Ways.of (fun hb => ?_) (fun hb => ?_)
    · obtain ⟨pv, hpv⟩ := Option.isSome_iff_exists.mp hb
      repeat walk_at "s"
      refine b_pop hdc' hpv hml fun h₅ tk₅ hs₅ hd₅ => ?_
      refine ⟨h₅, tk₅, _, rfl, bX fun b o hb e => hs₅.extBut b o hb e, hn₄.sameBut hs₅ (Ne.symm hdC), ?_, by simp; omega⟩
      rw [show (some k).toList = [k] from rfl, minusK_snoc]
      exact hd₅
    · refine ⟨h₄, tk', _, rfl, bX fun _ _ _ e => e, hn₄, ?_, by omega⟩
      rw [show (some k).toList = [k] from rfl, minusK_snoc, without_none hb]
      exact hdc'
  case fin =>
    rintro C D I ys h' tk' m' ⟨hdc, hyl⟩ kb hC hD hI hCD hns hpl
    rw [hol, List.take_length] at hdc
    have hdX : d ∉ [C, D, I] := by
      simp only [List.mem_cons, List.not_mem_nil, or_false, not_or]
      exact ⟨fun e' => (by rw [e', hC] at hdl; cases hdl), fun e' => (by rw [e', hD] at hdl; cases hdl), fun e' => (by rw [e', hI] at hdl; cases hdl)⟩
    have kd : But [d] h₂ (dropAt h' [C, D, I]) := fun b o hb e => by
      have hb' : b ∉ [C, D, I] := by
        simp only [List.mem_cons, List.not_mem_nil, or_false, not_or]
        exact ⟨fun e' => (by rw [e', hC] at e; cases e), fun e' => (by rw [e', hD] at e; cases e), fun e' => (by rw [e', hI] at e; cases e)⟩
      refine dropAt_get hb' (kb b o ?_ e)
      simp only [List.mem_cons, List.not_mem_nil, or_false, not_or] at hb hb' ⊢
      exact ⟨hb'.1, hb'.2.1, hb'.2.2, hb⟩
    have F' := F.changes (M' := [(d, DcP prog w (minusK kvs ns'))]) kd (by simp) rfl (by
      intro p hp
      rw [List.mem_singleton.mp hp]
      obtain ⟨o, e, r⟩ := hdc
      exact ⟨o, dropAt_get hdX e, r⟩)
    refine compA_fin F' (by walk_at "put") (dropAt_sub _ _) (dropAt_in (by simp)) (dropAt_in (by simp)) hCD hns hpl fun h'' tk'' _ F'' => ?_
    repeat walk_at "s"
    exact Post.mk' (F''.toRd.but fun b o n e => kg' _ _ (hg b o n e)) (F''.ownAt (.tail .head))
end
end PC17
section PC18
open PySem PySem.W PyProof.Rows PySem.Calls
set_option Elab.async false
set_option linter.unusedVariables false
set_option maxRecDepth 100000
set_option maxHeartbeats 4000000
abbrev Pack := Int × Bool × Bool
structure RS where
  nn : Nat
  lg : Option Int
  sent : List (Int × Int × Bool)
  ads : List (Int × Int)
  out : List Int
abbrev Found := List (Int × Int) × List Int
noncomputable def pk (ps : List Pack) (k : Int) : Pack := ps.getD k.toNat (0, false, false)
noncomputable def sendOne (ps : List Pack) (mv : Int) (r : RS) : RS := { r with nn := r.nn + 1, sent := r.sent ++ [((r.nn : Int), (pk ps r.nn).1 + mv, (pk ps r.nn).2.1)], out := r.out ++ [(r.nn : Int)] }
noncomputable def sendN (ps : List Pack) (mv : Int) : Nat → RS → RS
  | 0, r => r
  | n + 1, r => sendOne ps mv (sendN ps mv n r)
noncomputable def minusP (ps : List (Int × Int × Bool)) (ns : List Int) : List (Int × Int × Bool) := ps.filter fun p => !ns.contains p.1
noncomputable def leastD (nn : Nat) : List (Int × Int × Bool) → Int
  | [] => nn
  | p :: _ => p.1
noncomputable def dueD (ps : List Pack) (now last : Int) (out : List Int) : List Int := out.filter fun n => decide (n < last) && (decide (n + 3 ≤ last) || decide ((pk ps n).1 + 150 ≤ now))
theorem dueD_one (ps : List Pack) (now last k : Int) : dueD ps now last [k] = if k < last ∧ (k + 3 ≤ last ∨ (pk ps k).1 + 150 ≤ now) then [k] else [] := by
  simp [dueD, List.filter_cons]
noncomputable def rowOf (sent : List (Int × Int × Bool)) (n : Int) : Int × Int × Bool := (sent.find? fun p => decide (p.1 = n)).getD (n, 0, false)
noncomputable def pairsD (sent : List (Int × Int × Bool)) (lost : List Int) : List (Int × Int) := (lost.filter fun n => (rowOf sent n).2.2).map fun n => (n, (rowOf sent n).2.1)
theorem rowOf_of : ∀ {sent : List (Int × Int × Bool)} {i : Nat} {p : Int × Int × Bool}, (sent.map (·.1)).Pairwise (· < ·) → sent[i]? = some p → rowOf sent p.1 = p
  | [], _, _, _, h => by simp at h
  | q :: r, 0, p, _, h => by
    simp only [List.getElem?_cons_zero, Option.some.injEq] at h; subst h; simp [rowOf]
  | q :: r, i + 1, p, ha, h => by
    simp only [List.map_cons, List.pairwise_cons] at ha
    have h' : r[i]? = some p := by simpa using h
    have hm : p.1 ∈ r.map (·.1) := List.mem_map.mpr ⟨_, List.mem_of_getElem? h', rfl⟩
    have hlt := ha.1 _ hm
    have hq : ¬ q.1 = p.1 := by omega
    have := rowOf_of ha.2 h'
    unfold rowOf at *
    rw [List.find?_cons]
    simp only [hq, decide_false]
    exact this
theorem lostN_sub {ps : List (Int × Int × Bool)} {lg now dl k : Int} (h : k ∈ lostN ps lg now dl) : k ∈ ps.map (·.1) := by
  obtain ⟨p, hp, rfl⟩ := List.mem_map.mp h
  exact List.mem_map.mpr ⟨p, (List.mem_filter.mp hp).1, rfl⟩
theorem lostN_asc {ps : List (Int × Int × Bool)} {lg now dl : Int} (h : (ps.map (·.1)).Pairwise (· < ·)) : (lostN ps lg now dl).Pairwise (· < ·) := h.sublist (List.Sublist.map _ List.filter_sublist)
theorem lostN_len {ps : List (Int × Int × Bool)} {lg now dl : Int} : (lostN ps lg now dl).length ≤ ps.length := by
  unfold lostN; rw [List.length_map]; exact List.length_filter_le _ _
theorem row_at {g : Heap} {ps : List (Int × Int × Bool)} {kvs : List (Int × Value)} (x : Rows g ps kvs) (ha : (ps.map (·.1)).Pairwise (· < ·)) {k : Int} (hk : k ∈ ps.map (·.1)) : ∃ T, valueAt kvs k = some (.ref T) ∧ ∃ us, IsT g T us ∧ ∃ t u, us = [.int (rowOf ps k).2.1 t, .int 50 u, .bool (rowOf ps k).2.2, .bool true] := by
  obtain ⟨p, hp, rfl⟩ := List.mem_map.mp hk
  obtain ⟨i, hi, e⟩ := List.mem_iff_getElem.mp hp
  have hi' : ps[i]? = some p := by rw [List.getElem?_eq_getElem hi, e]
  obtain ⟨⟨k, pv⟩, hkv, e1, T, us, e2, hT, t4, t5, rfl⟩ := paired_at x i _ hi'
  dsimp only at e1 e2
  subst e1 e2
  have hnd : (kvs.map (·.1)).Nodup := by rw [x.keys]; exact ha.imp fun h e => by omega
  exact ⟨T, valueAt_of hnd hkv, _, hT, t4, t5, by rw [rowOf_of ha hi']⟩
theorem pk_at {ps : List Pack} {vp : List Value} {g : Heap} {G : Pack → List Value → Prop} {k : Nat} (x : Tups G ps vp g) (hk : k < ps.length) : ∃ T us, vp[(k : Int).toNat]? = some (.ref T) ∧ IsT g T us ∧ G (pk ps k) us := by
  have e : ps[k]? = some ps[k] := List.getElem?_eq_getElem hk
  obtain ⟨y, hy, T, us, rfl, hT, hG⟩ := paired_at x k _ e
  refine ⟨T, us, by simpa using hy, hT, ?_⟩
  have : pk ps k = ps[k] := by simp [pk, hk]
  rw [this]; exact hG
theorem pk_at' {ps : List Pack} {vp : List Value} {g : Heap} {G : Pack → List Value → Prop} {k : Int} (x : Tups G ps vp g) (h0 : 0 ≤ k) (hk : k < ps.length) : ∃ T us, vp[k.toNat]? = some (.ref T) ∧ IsT g T us ∧ G (pk ps k) us := by
  obtain ⟨j, rfl⟩ := Int.eq_ofNat_of_zero_le h0
  exact pk_at x (by omega)
noncomputable def nums (many : Nat) : List Int := (List.range many).map Int.ofNat
theorem nums_take (many i : Nat) (hi : i < many) : ((nums many).take (i + 1)) = ((nums many).take i) ++ [(i : Int)] := by
  have : (nums many)[i]? = some (i : Int) := by simp [nums, hi]
  rw [List.take_add_one, this]; rfl
noncomputable def lastD (told : List Int) : Int := told.getLast?.getD 0
theorem lastD_at {told : List Int} (h : told ≠ []) : told[told.length - 1]? = some (lastD told) := by
  have := List.length_pos_iff.mpr h
  rw [lastD, List.getLast?_eq_getElem?, List.getElem?_eq_getElem (by omega)]; rfl
noncomputable def rngD (told : List Int) : List (Int × Int) := told.reverse.map fun n => (n, n)
noncomputable def toldD (ps : List Pack) (mv : Int) (many : Nat) (told : List Int) (now : Int) (r : RS) : Option (RS × Found) :=
  let lg := lgMax r.lg (lastD told)
  let sent := minusP r.sent ((r.sent.map (·.1)).filter (hasN (rngD told)))
  let ls := leastD r.nn sent
  let ads := pruneD (addAll ls r.ads (rngD told)) ls
  let out := r.out.filter fun n => !told.contains n
  let due := dueD ps now (lastD told) out
  let lost := lostN sent lg (now + mv) 150
  if lost = due then some (⟨r.nn, some lg, minusP sent lost, ads, out.filter fun n => !due.contains n⟩, (pairsD sent lost, (nums many).filter (hasN ads))) else none
noncomputable def lookD (ps : List Pack) (mv : Int) (lk : Nat × List Int × Int) (r : RS) : Option (RS × Found) :=
  let r := sendN ps mv (lk.1 - r.nn) r
  if lk.2.1 = [] then some (r, ([], [])) else toldD ps mv lk.1 lk.2.1 lk.2.2 r
noncomputable def runD (ps : List Pack) (mv : Int) : List (Nat × List Int × Int) → RS → Option (RS × List Found)
  | [], r => some (r, [])
  | lk :: rest, r => (lookD ps mv lk r).bind fun (r', f) => (runD ps mv rest r').map fun (r'', fs) => (r'', f :: fs)
noncomputable def rs0 : RS := ⟨0, none, [], [], []⟩

noncomputable def PackG (p : Pack) (us : List Value) : Prop := ∃ t, us = [.int p.1 t, .bool p.2.1, .bool p.2.2]
section
variable {w : World} {mg mb : Str → Option Value} {prog : Program} {A : Around} {E : Value → Shared → Prop} {s : Shared} {h g₀ : Heap} {tk n : Nat}
inductive LookAt (h : Heap) (lk : Nat × List Int × Int) (y : Value) : Prop
  | mk (T a : Addr) (vt : List Value) (t u : Tok) (e : y = .ref T) (i : IsT h T [.int lk.1 t, .ref a, .int lk.2.2 u]) (l : IsL h a vt) (n : IntsAre vt lk.2.1)
noncomputable def Looks' (h : Heap) (lks : List (Nat × List Int × Int)) (vs : List Value) : Prop := Paired (LookAt h) lks vs
theorem Looks'.up {h h' : Heap} {lks : List (Nat × List Int × Int)} {vs : List Value} (k : Sub h h') (x : Looks' h lks vs) : Looks' h' lks vs := Paired.mono (fun _ _ ⟨T, a, vt, t, u, b, c, d, e⟩ => ⟨T, a, vt, t, u, b, c.up k, d.up k, e⟩) x
inductive FoundAt (h : Heap) (f : Found) (y : Value) : Prop
  | mk (T a b : Addr) (va vb : List Value) (e : y = .ref T) (i : IsT h T [.ref a, .ref b]) (l : IsL h a va) (t : Tups PrG f.1 va h) (m : IsL h b vb) (n : IntsAre vb f.2)
noncomputable def Founds (h : Heap) (fs : List Found) (vs : List Value) : Prop := Paired (FoundAt h) fs vs
theorem Founds.up {h h' : Heap} {fs : List Found} {vs : List Value} (k : Sub h h') (x : Founds h fs vs) : Founds h' fs vs := Paired.mono (fun _ _ ⟨T, a, b, va, vb, e, c, d, f, i, j⟩ => ⟨T, a, b, va, vb, e, c.up k, d.up k, f.up k, i.up k, j⟩) x
inductive FoundNw (h₀ h : Heap) (f : Found) (y : Value) : Prop
  | mk (T a b : Addr) (va vb : List Value) (e : y = .ref T) (n1 : h₀.get? T = none) (n2 : h₀.get? a = none) (n3 : h₀.get? b = none) (i : IsT h T [.ref a, .ref b]) (l : IsL h a va) (t : NewTs h₀ PrG [] f.1 va h) (m : IsL h b vb) (n : IntsAre vb f.2)
noncomputable def FoundsN (h₀ h : Heap) (fs : List Found) (vs : List Value) : Prop := Paired (FoundNw h₀ h) fs vs
theorem le9 {n : Nat} (h : n ≤ 9) : n ≤ 1000 := Nat.le_trans h (by decide)
theorem up0 {m : Nat} (h : m ≤ 28) : m ≤ 64 := by omega
theorem up1 {m : Nat} (h : m ≤ 28) : m + 1 ≤ 64 := by omega
theorem up2 {m : Nat} (h : m ≤ 28) : m + 1 + 1 ≤ 64 := by omega
theorem up3 {m : Nat} (h : m ≤ 28) : m + 1 + 1 + 1 ≤ 40 := by omega
theorem le9e {n m : Nat} (e : n = m) (h : m ≤ 9) : n ≤ 1000 := e ▸ le9 h
theorem idx_last {L N : Nat} (h : L = N) (h0 : 0 < N) : ((-1 : Int) + (L : Int)).toNat = N - 1 := by omega
theorem IsT.via {h g : Heap} {T : Addr} {us : List Value} (k : ∀ o, h.get? T = some o → g.get? T = some o) (x : IsT h T us) : IsT g T us := Exists.elim x fun o r => ⟨o, k o r.1, r.2⟩
theorem IsL.via {h g : Heap} {T : Addr} {us : List Value} (k : ∀ o, h.get? T = some o → g.get? T = some o) (x : IsL h T us) : IsL g T us := Exists.elim x fun o r => ⟨o, k o r.1, r.2⟩
theorem FoundsN.up {h₀ h h' : Heap} {fs : List Found} {vs : List Value} (k : Sub h h') (x : FoundsN h₀ h fs vs) : FoundsN h₀ h' fs vs := Paired.mono (fun _ _ hx => by
  obtain ⟨T, a, b, va, vb, e, n1, n2, n3, c, d, f, i, j⟩ := hx
  exact ⟨T, a, b, va, vb, e, n1, n2, n3, c.up k, d.up k, f.sub k, i.up k, j⟩) x
theorem NewTs.froz' {h₀ h g : Heap} {ds : List (Int × Int)} {vs : List Value} (k : ∀ a o, h₀.get? a = none → h.get? a = some o → g.get? a = some o) (x : NewTs h₀ PrG [] ds vs h) : Tups PrG ds vs g := Paired.mono (fun _ _ hy => by
  obtain ⟨T, us, e, _, q, r, u⟩ := hy
  exact ⟨T, us, e, r.via fun o => k _ o q, u⟩) x
theorem FoundsN.froz {h₀ h g : Heap} {fs : List Found} {vs : List Value} (k : ∀ a o, h₀.get? a = none → h.get? a = some o → g.get? a = some o) (x : FoundsN h₀ h fs vs) : Founds g fs vs := Paired.mono (fun _ _ hx => by
  obtain ⟨T, a, b, va, vb, e, n1, n2, n3, c, d, f, i, j⟩ := hx
  exact ⟨T, a, b, va, vb, e, c.via fun o => k _ o n1, d.via fun o => k _ o n2, f.froz' k, i.via fun o => k _ o n3, j⟩) x

structure RunS (prog : Program) (w : World) (h₀ g : Heap) (x dx d la : Addr) (f : Str → Option Value) (kvs : List (Int × Value)) (vo vads vf : List Value) (r : RS) (fs : List Found) : Prop where
  hx : g.get? x = some (instObj 256 dx)
  sc : ScP d la r.nn r.lg f
  hm : (d == sysModules) = false
  pks : Pks g r.sent kvs
  hla : IsL g la vads
  hads : Tups PrG r.ads vads g
  out : IntsAre vo r.out
  fnd : FoundsN h₀ g fs vf
theorem RunS.up {h₀ g g' : Heap} {x dx d la : Addr} {f : Str → Option Value} {kvs : List (Int × Value)} {vo vads vf : List Value} {r : RS} {fs : List Found} (k : Sub g g') (S : RunS prog w h₀ g x dx d la f kvs vo vads vf r fs) : RunS prog w h₀ g' x dx d la f kvs vo vads vf r fs :=
  ⟨k _ _ S.hx, S.sc, S.hm, S.pks.up k, S.hla.up k, S.hads.up k, S.out, S.fnd.up k⟩
structure RsOk (N i : Nat) (r : RS) : Prop where
  asc : (r.sent.map (·.1)).Pairwise (· < ·)
  rng : ∀ p ∈ r.sent, 0 ≤ p.1 ∧ p.1 < r.nn
  sl : r.sent.length ≤ r.nn
  ol : r.out.length ≤ r.nn
  orng : ∀ n ∈ r.out, 0 ≤ n ∧ n < (r.nn : Int)
  al : r.ads.length ≤ 9 * i
  np : r.nn ≤ N
  n9 : N ≤ 9
theorem RsOk.nl {N i : Nat} {r : RS} (h : RsOk N i r) : r.nn ≤ 9 := Nat.le_trans h.np h.n9
theorem RsOk.send {N i : Nat} {r : RS} {ps : List Pack} {mv : Int} (h : RsOk N i r) (hn : r.nn < N) : RsOk N i (sendOne ps mv r) := by
  refine ⟨?_, ?_, ?_, ?_, ?_, h.al, hn, h.n9⟩
  · simp only [sendOne, List.map_append, List.map_cons, List.map_nil]
    refine List.pairwise_append.mpr ⟨h.asc, List.pairwise_singleton _ _, ?_⟩
    intro a ha b hb
    obtain ⟨p, hp, rfl⟩ := List.mem_map.mp ha
    rw [List.mem_singleton.mp hb]
    exact (h.rng p hp).2
  · intro p hp
    simp only [sendOne, List.mem_append, List.mem_singleton] at hp ⊢
    rcases hp with hp | rfl
    · have := h.rng p hp; push_cast; omega
    · push_cast; omega
  · have := h.sl; simp only [sendOne, List.length_append, List.length_singleton]; omega
  · have := h.ol; simp only [sendOne, List.length_append, List.length_singleton]; omega
  · intro n hp
    simp only [sendOne, List.mem_append, List.mem_singleton] at hp ⊢
    rcases hp with hp | rfl
    · have := h.orng n hp; push_cast; omega
    · push_cast; omega
theorem sendN_nn (ps : List Pack) (mv : Int) : ∀ (k : Nat) (r : RS), (sendN ps mv k r).nn = r.nn + k
  | 0, r => rfl
  | k + 1, r => by simp only [sendN, sendOne, sendN_nn ps mv k r]; omega
theorem RsOk.sendN {N i : Nat} {r : RS} {ps : List Pack} {mv : Int} (h : RsOk N i r) : ∀ k, r.nn + k ≤ N → RsOk N i (sendN ps mv k r)
  | 0, _ => h
  | k + 1, hk => (RsOk.sendN h k (by omega)).send (by rw [sendN_nn]; omega)
theorem Pks.minus {h : Heap} {ps : List (Int × Int × Bool)} {kvs : List (Int × Value)} (ns : List Int) (x : Pks h ps kvs) : Pks h (minusP ps ns) (minusK kvs ns) := by
  induction x with
  | nil => exact .nil
  | @cons a b xs ys hab _ ih =>
    unfold minusP minusK
    rw [List.filter_cons, List.filter_cons, hab.1]
    split
    · exact .cons hab ih
    · exact ih
theorem minusP_asc {ps : List (Int × Int × Bool)} (ns : List Int) (h : (ps.map (·.1)).Pairwise (· < ·)) : ((minusP ps ns).map (·.1)).Pairwise (· < ·) := h.sublist (List.Sublist.map _ List.filter_sublist)
theorem least_ok {nn : Nat} {sent : List (Int × Int × Bool)} {kvs : List (Int × Value)} (hk : kvs.map (·.1) = sent.map (·.1)) (ha : (sent.map (·.1)).Pairwise (· < ·)) : if kvs = [] then leastD nn sent = nn else leastD nn sent ∈ kvs.map (·.1) ∧ ∀ k ∈ kvs.map (·.1), leastD nn sent ≤ k := by
  rw [hk]
  cases sent with
  | nil =>
    have : kvs = [] := by simpa using hk
    rw [if_pos this]; rfl
  | cons p r =>
    have : kvs ≠ [] := by rintro rfl; simp at hk
    rw [if_neg this]
    simp only [List.map_cons, List.pairwise_cons] at ha
    refine ⟨by simp [leastD], fun k hk => ?_⟩
    simp only [List.map_cons, List.mem_cons] at hk
    rcases hk with rfl | hk
    · exact Int.le_refl _
    · exact Int.le_of_lt (ha.1 k hk)
noncomputable def RunP (ps : List Pack) (mv : Int) (lks : List (Nat × List Int × Int)) (h : Heap) (v : Value) (h' : Heap) : Prop := match runD ps mv lks rs0 with
  | none => v = .none
  | some (_, fs) => ∃ D vs, v = .ref D ∧ h.get? D = none ∧ IsL h' D vs ∧ FoundsN h h' fs vs
inductive RunJ (prog : Program) (w : World) (h : Heap) (lp ll : Addr) (ps : List Pack) (lks : List (Nat × List Int × Int)) (mv : Int) (t1 : Tok) (i : Nat) (g' : Heap) (V : List (Str × Option Value)) (M : List (Addr × (Obj → Prop))) : Prop
  | mk (r : RS) (fs : List Found) (hok : RsOk ps.length i r) (hfl : fs.length = i) (hrun : runD ps mv lks rs0 = (runD ps mv (lks.drop i) r).map (fun q => (q.1, fs ++ q.2))) (x dx d la : Addr) (f : Str → Option Value) (kvs : List (Int × Value)) (vo vads vf : List Value) (fo ff : Addr) (S : RunS prog w h g' x dx d la f kvs vo vads vf r fs)
      (eM : M = [(ff, LstP vf), (fo, LstP vo), (d, DcP prog w kvs), (dx, ObjP 17 f)]) (v1 v2 v3 v4 v5 v6 v7 v8 v9 v10 : Option Value) (eV : V = ([("packs", some (.ref lp)), ("looks", some (.ref ll)), ("move", some (.int mv t1)), ("space", some (.ref x)), ("out", some (.ref fo)), ("found", some (.ref ff)), ("many", v1), ("told", v2), ("now", v3), ("number", v4), ("frames", v5), ("ranges", v6), ("rows", v7), ("due", v8), ("lost", v9), ("between", v10)] : List (Str × Option Value)))
inductive SendJ (prog : Program) (w : World) (h : Heap) (lp ll ta x dx d la fo ff I : Addr) (oI : Obj) (ps : List Pack) (mv : Int) (t1 tm tn : Tok) (many : Nat) (now : Int) (r : RS) (fs : List Found) (vads vf : List Value) (v6 v7 v8 v9 v10 : Option Value) (m : Nat) (g' : Heap) (V : List (Str × Option Value)) (M : List (Addr × (Obj → Prop))) : Prop
  | mk (j : Nat) (hj : m + j = many - r.nn) (f : Str → Option Value) (kvs : List (Int × Value)) (vo : List Value) (S : RunS prog w h g' x dx d la f kvs vo vads vf (sendN ps mv j r) fs)
      (eM : M = [(I, (· = oI)), (ff, LstP vf), (fo, LstP vo), (d, DcP prog w kvs), (dx, ObjP 17 f)]) (v4 v5 : Option Value) (eV : V = ([("packs", some (.ref lp)), ("looks", some (.ref ll)), ("move", some (.int mv t1)), ("space", some (.ref x)), ("out", some (.ref fo)), ("found", some (.ref ff)), ("many", some (.int many tm)), ("told", some (.ref ta)), ("now", some (.int now tn)), ("number", v4), ("frames", v5), ("ranges", v6), ("rows", v7), ("due", v8), ("lost", v9), ("between", v10)] : List (Str × Option Value)))
theorem law_run_ct {lp ll : Addr} {vp vl : List Value} {ps : List Pack} {lks : List (Nat × List Int × Int)} {mv : Int} {t1 : Tok} (R : Room (n+12) A) (W : Wd w mg mb h) (hp : IsL h lp vp) (hpt : Tups PackG ps vp h) (hl : IsL h ll vl) (hlt : Looks' h lks vl)
    (hps : ps.length ≤ 9) (hlk : lks.length ≤ 2) (hlks : ∀ lk ∈ lks, lk.1 ≤ ps.length ∧ lk.2.1.length ≤ 9) :
    wpAny (model prog w) A (call (.ref 284) [.ref lp, .ref ll, .int mv t1]) (Post s h [] (RunP ps mv lks h)) (fun _ _ => False) (upd s h tk) := by
  refine enter (V := [("packs", some (.ref lp)), ("looks", some (.ref ll)), ("move", some (.int mv t1)), ("space", none), ("out", none), ("found", none), ("many", none), ("told", none), ("now", none), ("number", none), ("frames", none), ("ranges", none), ("rows", none), ("due", none), ("lost", none), ("between", none)]) (M := []) R W (Sub.rfl' _) rfl ?hcd rfl rfl rfl rfl rfl ?hkind ?hcn rfl rfl rfl ?hV ?hVn (List.forall_mem_nil _) List.nodup_nil ?q
  walk_at "facts"
  intro L h₁ tk₁ g kg hg _ _ _ F R'
  have hpg := hp.up kg
  have hptg := hpt.up kg
  have hlg := hl.up kg
  have hltg := hlt.up kg
  repeat walk_at "s"
  refine Post.use (sc_new (n := n) (R'.less (by omega)) F.wdh) fun v h₂ tk₂ k₂ e₂ => ?_
  obtain ⟨x, dx, d, la, f, rfl, hx0, hdx0, hd0, hla0, hnd, hx, hdx, hsc, hm, hdd, hla⟩ := e₂
  simp only [List.nodup_cons, List.mem_cons, List.not_mem_nil, or_false, not_or, not_false_eq_true, List.nodup_nil, and_true] at hnd
  have F := F.adopts k₂.sub [(x, (· = instObj 256 dx)), (la, LstP []), (d, DcP prog w []), (dx, ObjP 17 f)] (by
    intro p hp
    simp only [List.mem_cons, List.not_mem_nil, or_false] at hp
    rcases hp with rfl | rfl | rfl | rfl
    · exact ⟨hx0, _, hx, rfl⟩
    · exact ⟨hla0, hla⟩
    · exact ⟨hd0, hdd⟩
    · exact ⟨hdx0, hdx⟩) (by simp only [List.map_cons, List.map_nil, List.nodup_cons, List.mem_cons, List.not_mem_nil, or_false, not_or, not_false_eq_true, List.nodup_nil, and_true]; exact ⟨⟨hnd.1.2.2, hnd.1.2.1, hnd.1.1⟩, ⟨fun e => hnd.2.2 e.symm, fun e => hnd.2.1.2 e.symm⟩, fun e => hnd.2.1.1 e.symm⟩)
  refine Fx.frzc F ?_
  rintro g₁ o₁ kg₁ hx₁ rfl F
  refine Fx.frzc F ?_
  rintro g₂ o₂ kg₂ hla₂ ⟨c₂, rfl⟩ F
  have hx₂ := kg₂ _ _ hx₁
  have kgg : Sub g g₂ := kg₁.trans kg₂
  have hsn := hsc.sent
  repeat walk_at "s"
  rename Fx _ _ _ _ _ _ _ _ => F
  have F := F.forget (List.sublist_cons_self _ _)
  have hvl : vl.length = lks.length := (Paired.length hlt).symm
  refine forL (RunJ prog w h lp ll ps lks mv t1)
    F (src_l R'.handled (hlg.up kgg) F.keep) ⟨rs0, [], ⟨.nil, by simp [rs0], by simp [rs0], by simp [rs0], by simp [rs0], by simp [rs0], by simp [rs0], hps⟩, rfl, by simp, x, dx, d, la, f, [], [], [], [], _, _, ⟨hx₂, hsc, hm, .nil, ⟨_, hla₂, rfl, c₂, rfl⟩, .nil, .nil, .nil⟩, rfl, _, _, _, _, _, _, _, _, _, _, rfl⟩ ?turn ?done
  case done =>
    rintro g₃ V₃ M₃ h₃ tk₃ ⟨r, fs, hok, hfl₀, hrun, x, dx, d, la, f, kvs, vo, vads, vf, fo, ff, S, rfl, v1, v2, v3, v4, v5, v6, v7, v8, v9, v10, rfl⟩ k₃ F₃
    rw [hvl, List.drop_length] at hrun
    repeat walk_at "s"
    refine Post.mk' (F₃.toRd.but fun b o n e => k₃ _ _ (kgg _ _ (hg b o n e))) ?_
    unfold RunP
    rw [hrun]
    simp only [runD, Option.map_some, List.append_nil]
    exact ⟨ff, vf, rfl, none_back (fun b o e => k₃ _ _ (kgg _ _ (hg b o (by simp) e))) (F₃.fresh .head), F₃.isL .head, S.fnd.up F₃.keep⟩
  case turn =>
    rintro i v g₃ V₃ M₃ h₃ tk₃ I oI hi hv ⟨r, fs, hok, hfl₀, hrun, x, dx, d, la, f, kvs, vo, vads, vf, fo, ff, S, rfl, v1, v2, v3, v4, v5, v6, v7, v8, v9, v10, rfl⟩ k₃ F₃
    obtain ⟨⟨many, told, now⟩, hlk1, T, ta, vt, tm, tn, rfl, hT, hta, hti⟩ := paired_get hltg i v hv
    have kk₃ := kgg.trans k₃
    have hT := hT.up kk₃
    have hta := hta.up kk₃
    obtain ⟨hmany, htl⟩ := hlks _ (List.mem_of_getElem? hlk1)
    replace htl : told.length ≤ 9 := htl
    replace hmany : many ≤ ps.length := hmany
    replace hti : IntsAre vt told := hti
    have hdrop : lks.drop i = (many, told, now) :: lks.drop (i + 1) := by
      obtain ⟨hlt, e⟩ := List.getElem?_eq_some_iff.mp hlk1
      rw [← e]; exact List.drop_eq_getElem_cons hlt
    rw [hdrop, runD] at hrun
    repeat walk_at "s"
    rename Fx _ _ _ _ _ _ _ _ => F₄
    refine x_while (SendJ prog w h lp ll ta x dx d la fo ff I oI ps mv t1 tm tn many now r fs vads vf v6 v7 v8 v9 v10)
      (many - r.nn) F₄ ⟨0, rfl, f, kvs, vo, S, rfl, _, _, rfl⟩ ?wturn
    rintro m g₄ V₄ M₄ h₅ tk₅ ⟨j, hj, f, kvs, vo, S, rfl, v4, v5, rfl⟩ k₅ F₅
    have hT := hT.up k₅
    have hta := hta.up k₅
    have hxg := S.hx
    have hmeth := S.sc.m
    have hsn := S.sc.sent
    obtain ⟨tnn, hnn⟩ := S.sc.nn
    have hnj := sendN_nn ps mv j r
    repeat walk_at "s"
    refine Ways.dec (fun hb => ?_) (fun hb => ?_)
    · have hlt : (sendN ps mv j r).nn < many := by omega
      have hokj : RsOk ps.length i (sendN ps mv j r) := hok.sendN j (by omega)
      have mth : f "take_number" = none ∧ f "on_sent" = none := ⟨hmeth _ (by decide), hmeth _ (by decide)⟩
      obtain ⟨mth1, mth2⟩ := mth
      repeat walk_at "s"
      refine Post.use (take_number_ct (n := n) (R'.less (by omega)) F₅.wd F₅.keep hxg (F₅.ownAt (.tail (.tail (.tail (.tail .head))))) (F₅.fresh (.tail (.tail (.tail (.tail .head))))) S.sc) fun v h₆ tk₆ k₆ e₆ => ?_
      obtain ⟨⟨tv, rfl⟩, f', hdx', hsc'⟩ := e₆
      refine Fx.ch1c F₅ k₆ (by walk_at "put") hdx' ?_
      intro g₆ kg₆ F₆ _
      have hxg := kg₆ _ _ hxg
      have mth2 : f' "on_sent" = none := hsc'.m _ (by decide)
      repeat walk_at "s"
      rename Fx _ _ _ _ _ _ _ _ => F₇
      have hnl := hokj.nl
      obtain ⟨Tp, up, hvp, hTp, tp, rfl⟩ := pk_at hptg (k := (sendN ps mv j r).nn) (by omega)
      have kk₆ := ((kk₃.trans k₅).trans kg₆)
      have hTp := hTp.up kk₆
      have hpg₆ := hpg.up kk₆
      repeat walk_at "s"
      refine Ways.joinF F₇ (fun v Mn => ∃ fl T us, v = .ref fl ∧ FrP (pk ps (sendN ps mv j r).nn).2.1 us ∧ Mn = [(fl, LstP [.ref T]), (T, TupP us)]) (Ways.of (fun hb => ?_) fun hb => ?_) ?_
      · repeat walk_at "s"
        rename Fx _ _ _ _ _ _ _ _ => F₈
        exact ⟨_, _, [_, _], rfl, ⟨_, _, _, rfl, by rw [hb]; exact ⟨_, rfl⟩, rfl⟩, F₈⟩
      · repeat walk_at "s"
        rename Fx _ _ _ _ _ _ _ _ => F₈
        exact ⟨_, _, [_, _], rfl, ⟨_, _, _, rfl, by rw [hb]; exact ⟨_, _, rfl⟩, rfl⟩, F₈⟩
      · rintro v h₈ tk₈ Mn ⟨fl, T, us, rfl, hfr, rfl⟩ F₈
        simp only [List.cons_append, List.nil_append] at F₈
        refine Fx.frzc F₈ ?_
        rintro g₈ o₈ kg₈ hfl hfl' F₈
        refine Fx.frzc F₈ ?_
        rintro g₉ o₉ kg₉ hfT hfT' F₈
        have hfl := (hfl'.isL hfl).up kg₉
        have hfT := hfT'.isT hfT
        have k₉ := kg₈.trans kg₉
        have hTp := hTp.up k₉
        have hpg₆ := hpg₆.up k₉
        have hxg := k₉ _ _ hxg
        repeat walk_at "s"
        rename Fx _ _ _ _ _ _ _ _ => F₉
        have hkl : kvs.length ≤ 9 := by rw [← Paired.length S.pks]; exact Nat.le_trans hokj.sl hnl
        have hdne : dx ≠ d := by
          have := F₉.keysNd
          simp only [List.map_cons, List.map_nil, List.nodup_cons, List.mem_cons, List.not_mem_nil, or_false, not_or] at this
          exact fun e => this.2.2.2.1 e.symm
        refine Post.use (on_sent_ct (n := n) (R'.less (by omega)) F₉.wd F₉.keep hxg (F₉.ownAt (.tail (.tail (.tail (.tail .head))))) (F₉.fresh (.tail (.tail (.tail (.tail .head))))) (F₉.ownAt (.tail (.tail (.tail .head)))) (F₉.fresh (.tail (.tail (.tail .head)))) hdne (by omega) hsc' hfl hfT hfr) fun v hA tkA kA eA => ?_
        obtain ⟨⟨px, pdx, pf, rfl, hpn, hpx, hpdx, ex, ⟨od, eo, ep⟩, pp⟩, ⟨f'', hdx'', hsc''⟩, hd''⟩ := eA
        have hnk : ((sendN ps mv j r).nn : Int) ∉ kvs.map (·.1) := by
          rw [S.pks.keys]
          intro hm
          obtain ⟨p, hp, e⟩ := List.mem_map.mp hm
          have := (hokj.rng p hp).2; omega
        rw [stored_new hnk] at hd''
        refine Fx.ch2c F₉ kA (a := dx) (b := d) (by walk_at "put") (by walk_at "put") hdne hdx'' hd'' ?_
        intro gA kgA FA frz
        have ex := frz _ _ hpx ex
        have eo := frz _ _ hpdx eo
        have kz := ((kg₆.trans k₉).trans kgA)
        have SA := S.up kz
        have hol : vo.length ≤ 9 := by rw [SA.out.length]; exact Nat.le_trans hokj.ol hnl
        repeat walk_at "s"
        rename Fx _ _ _ _ _ _ _ _ => FB
        refine WEnd.nxt (m' := m - 1) FB (by omega) kz ⟨j + 1, by omega, f'', _, _, ⟨SA.hx, ?_, SA.hm, ?_, SA.hla, SA.hads, ints_snoc SA.out, SA.fnd⟩, rfl, _, _, rfl⟩
        · show ScP d la (((sendN ps mv j r).nn + 1 : Nat) : Int) _ f''
          push_cast; exact hsc''
        · exact Paired.snoc SA.pks ⟨rfl, px, pdx, pf, rfl, ex, ⟨od, eo, ep⟩, pp⟩
    · have hjm : j = many - r.nn := by omega
      rw [hjm] at S hnn hnj
      have hok₁ : RsOk ps.length i (sendN ps mv (many - r.nn) r) := by
        refine hok.sendN _ ?_
        have := hok.np; omega
      have hlk : lookD ps mv (many, told, now) r = if told = [] then some (sendN ps mv (many - r.nn) r, ([], [])) else toldD ps mv many told now (sendN ps mv (many - r.nn) r) := rfl
      rw [hlk] at hrun
      clear hlk hjm hj hb hok hnj
      generalize sendN ps mv (many - r.nn) r = r₁ at S hnn hok₁ hrun
      have kk₅ := kk₃.trans k₅
      have hvfl : vf.length ≤ 2 := by rw [← Paired.length S.fnd]; omega
      repeat walk_at "s"
      rename Fx _ _ _ _ _ _ _ _ => F₆
      refine eq_intsK (hta.up F₆.keep) hti (F₆.isL .head) .nil R'.cl64 ?_
      repeat walk_at "s"
      refine Ways.dec (fun ht => ?_) (fun ht => ?_)
      · rw [if_pos ht] at hrun
        repeat walk_at "s"
        rename Fx _ _ _ _ _ _ _ _ => F₇
        have new : ∀ {a}, g₄.get? a = none → h.get? a = none := fun e => none_back (fun b o e => kk₅ _ _ (hg b o (by simp) e)) e
        have n1 := new (F₇.fresh .head)
        have n2 := new (F₇.fresh (.tail .head))
        have n3 := new (F₇.fresh (.tail (.tail .head)))
        refine Fx.frzc F₇ ?_
        rintro gA oA kA hTT hTP F₇
        refine Fx.frzc F₇ ?_
        rintro gB oB kB hb₁ hbP F₇
        refine Fx.frzc F₇ ?_
        rintro gC oC kC ha₁ haP F₇
        refine Fx.frzc F₇ ?_
        rintro gD oD kD _ _ F₇
        have kz := ((kA.trans kB).trans kC).trans kD
        refine TurnE.cnt F₇ (k₅.trans kz) ⟨r₁, fs ++ [([], [])], ⟨hok₁.asc, hok₁.rng, hok₁.sl, hok₁.ol, hok₁.orng, by have := hok₁.al; omega, hok₁.np, hok₁.n9⟩, by simp [hfl₀], ?_, x, dx, d, la, f, kvs, vo, vads, _, fo, ff,
          ⟨(S.up kz).hx, S.sc, S.hm, (S.up kz).pks, (S.up kz).hla, (S.up kz).hads, S.out, Paired.snoc (S.up kz).fnd ⟨_, _, _, [], [], rfl, n1, n3, n2, ((hTP.isT hTT).up ((kB.trans kC).trans kD)), (haP.isL ha₁).up kD, .nil, (hbP.isL hb₁).up (kC.trans kD), .nil⟩⟩, rfl, _, _, _, _, _, _, _, _, _, _, rfl⟩
        rw [hrun]
        simp only [Option.bind_some, Option.map_map]
        congr 1
        funext q
        simp
      · rw [if_neg ht] at hrun
        repeat walk_at "s"
        walk_at "x_comp"
        repeat walk_at "s"
        rename Fx _ _ _ _ _ _ _ _ => F₇
        have hvt : vt.length = told.length := hti.length
        refine slc F₇ (hta.up F₇.keep) (by rw [sizeLine_eq]; omega) .none .none (.int _ _) (by decide) (krv_pick _) fun lr h₈ F₈ hlr k₈ => ?_
        refine Fx.frzc F₈ ?_
        rintro gA oA kA hlr₁ ⟨cA, rfl⟩ F₈
        have hsrc : IsL gA lr vt.reverse := ⟨_, hlr₁, rfl, cA, by simp⟩
        have htr := hti.reverse
        refine compA_t (fun i => ((told.reverse).take i).map fun n => (n, n)) PrG (fun v => [("number", some v)]) R' F₈ (src_l R'.handled hsrc F₈.keep) (by simp; omega) (by walk_at "caps") rfl (fun i _ => by simp; omega) ?turnR _ (fun D => by walk_at "put") ?finR (by decide +kernel) rfl rfl
        case turnR =>
          rintro C i v ys X h₃ tk₃ hin hv hO k₃ hX G
          obtain ⟨k, hk⟩ : ∃ k, told.reverse[i]? = some k := ⟨told.reverse[i]'(by simp at hin ⊢; omega), List.getElem?_eq_getElem _⟩
          obtain ⟨t, ht'⟩ := htr.get i k hk
          rw [ht'] at hv; cases hv
          have e2 : ((told.reverse).take (i + 1)).map (fun n => (n, n)) = ((told.reverse).take i).map (fun n => (n, n)) ++ [(k, k)] := by
            rw [List.take_add_one, hk]; simp
          rw [e2]
          repeat walk_at "s"
          refine n_tupR (by simp [sizeLine_eq]) fun a h₆ k₆ ha hT₆ => ?_
          refine PEnd.mk' k₆ ?_
          refine (hO.sub k₆).add (fun hm => ?_) (none_back k₃ ha) hT₆ ⟨_, _, rfl⟩
          have := hX a hm
          rw [ha] at this; cases this
        case finR =>
          intro lR vR hB tkB gB hR kB hlR FB
          have hR := hR.tups
          rw [show vt.reverse.length = told.reverse.length by simp [hvt], List.take_length] at hR
          change Tups PrG (rngD told) vR gB at hR
          refine Fx.frzc FB ?_
          rintro gC oC kC hlR₁ ⟨cC, rfl⟩ FB
          have hR := hR.up kC
          have hlR : IsL gC lR vR := ⟨_, hlR₁, rfl, cC, rfl⟩
          have kz := (kA.trans kB).trans kC
          have S := S.up kz
          have hta := hta.up kz
          have hxg := S.hx
          have hmeth : f "note_largest" = none ∧ f "take" = none := ⟨S.sc.m _ (by decide), S.sc.m _ (by decide)⟩
          obtain ⟨mth1, mth2⟩ := hmeth
          repeat walk_at "s"
          have hpos := List.length_pos_iff.mpr ht
          obtain ⟨tl, hla₁⟩ := hti.get _ _ (lastD_at ht)
          refine sub_ln (x := .int (lastD told) tl) (hta.up (Fx.toRd (by assumption)).keep) (by omega) (by omega) (by omega) (by rw [idx_last hvt hpos]; exact hla₁) ?_
          repeat walk_at "s"
          rename Fx _ _ _ _ _ _ _ _ => FD
          refine Post.use (note_largest_ct (n := n) (R'.less (by omega)) FD.wd FD.keep hxg (FD.ownAt (.tail (.tail (.tail (.tail (.tail .head)))))) (FD.fresh (.tail (.tail (.tail (.tail (.tail .head)))))) S.sc) fun v hE tkE kE eE => ?_
          obtain ⟨rfl, f₁, hdx₁, hsc₁⟩ := eE
          refine Fx.ch1c FD kE (by walk_at "put") hdx₁ ?_
          intro gE kgE FE _
          have S := S.up kgE
          have hxg := S.hx
          have hR := hR.up kgE
          have hlR : IsL gE lR vR := hlR.up kgE
          have mth1 : f₁ "take" = none := hsc₁.m _ (by decide)
          have mth2 : f₁ "acked_by" = none := hsc₁.m _ (by decide)
          have hkl : kvs.length ≤ 9 := by rw [← Paired.length S.pks]; exact Nat.le_trans hok₁.sl hok₁.nl
          have hRl : (rngD told).length ≤ 9 := by simp [rngD]; omega
          repeat walk_at "s"
          rename Fx _ _ _ _ _ _ _ _ => FF
          refine Post.use (acked_by_ct (n := n) (R'.less (by omega)) FF.wdh (FF.keep _ _ hxg) (FF.ownAt (.tail (.tail (.tail (.tail (.tail .head)))))) (FF.ownAt (.tail (.tail (.tail (.tail .head))))) S.hm (by omega) hsc₁ (by rw [S.pks.keys]; exact hok₁.asc) (hlR.up FF.keep) (hR.up FF.keep) (by omega)) fun v hG tkG kG eG => ?_
          obtain ⟨aG, vG, rfl, haG, ⟨cG, hoG⟩, hiG⟩ := eG
          refine Fx.refrc FF kG.sub ?_
          intro gG kgG FG frG
          have hoG := frG _ _ haG hoG
          rw [S.pks.keys] at hiG
          have S := S.up kgG
          have hxg := S.hx
          have hR := hR.up kgG
          have hlR : IsL gG lR vR := hlR.up kgG
          repeat walk_at "s"
          have hdne : d ≠ dx := by
            have := FG.keysNd
            simp only [List.map_cons, List.map_nil, List.nodup_cons, List.mem_cons, List.not_mem_nil, or_false, not_or] at this
            exact this.2.2.2.2.1
          have hdn := FG.fresh (a := d) (.tail (.tail (.tail (.tail .head))))
          obtain ⟨Wb, kb, kgb⟩ := FG.all_but hdn
          have hdxb : ∃ o, (dropAt hG [d]).get? dx = some o ∧ ObjP 17 f₁ o := let ⟨o, e, p⟩ := FG.ownAt (a := dx) (.tail (.tail (.tail (.tail (.tail .head))))); ⟨o, dropAt_get (by simpa using fun e => hdne e.symm) e, p⟩
          have hnsl : ((r₁.sent.map (·.1)).filter (hasN (rngD told))).length ≤ 9 := Nat.le_trans (List.length_filter_le _ _) (by rw [List.length_map]; exact Nat.le_trans hok₁.sl hok₁.nl)
          refine Post.use (take_ct (n := n) (R'.less (by omega)) Wb kb (kgb _ _ hxg) hdxb (FG.ownAt (.tail (.tail (.tail (.tail .head))))) (dropAt_in (by simp)) S.hm (by omega) hsc₁ (IsL.up kgb ⟨_, hoG, rfl, cG, rfl⟩) hiG (hok₁.asc.filter _) (by omega)) fun v hH tkH kH eH => ?_
          refine Fx.ch1c FG kH (by walk_at "put") eH ?_
          intro gH kgH FH _
          have S := S.up kgH
          have hxg := S.hx
          have hR := hR.up kgH
          have hlR : IsL gH lR vR := hlR.up kgH
          have hpk := S.pks.minus ((r₁.sent.map (·.1)).filter (hasN (rngD told)))
          have hasc := minusP_asc ((r₁.sent.map (·.1)).filter (hasN (rngD told))) hok₁.asc
          have mth1 : f₁ "note_ranges" = none := hsc₁.m _ (by decide)
          have hkl₂ : (minusK kvs ((r₁.sent.map (·.1)).filter (hasN (rngD told)))).length ≤ 9 := Nat.le_trans (List.length_filter_le _ _) hkl
          have hsl₂ : (minusP r₁.sent ((r₁.sent.map (·.1)).filter (hasN (rngD told)))).length ≤ r₁.nn := Nat.le_trans (List.length_filter_le _ _) hok₁.sl
          have hsr₂ : ∀ p ∈ minusP r₁.sent ((r₁.sent.map (·.1)).filter (hasN (rngD told))), 0 ≤ p.1 ∧ p.1 < r₁.nn := fun p hp => hok₁.rng p (List.mem_filter.mp hp).1
          have hadl := hok₁.al
          unfold toldD at hrun
          dsimp only at hrun
          generalize minusK kvs ((r₁.sent.map (·.1)).filter (hasN (rngD told))) = kvs₂ at hpk hkl₂ FH
          generalize minusP r₁.sent ((r₁.sent.map (·.1)).filter (hasN (rngD told))) = sent₂ at hpk hasc hrun hsl₂ hsr₂
          repeat walk_at "s"
          rename Fx _ _ _ _ _ _ _ _ => FI
          refine Post.use (note_ranges_ct (n := n) (kvs := kvs₂) (R'.less (by omega)) FI.wd FI.keep hxg (FI.ownAt (.tail (.tail (.tail (.tail (.tail .head)))))) (FI.fresh (.tail (.tail (.tail (.tail (.tail .head)))))) (FI.ownAt (.tail (.tail (.tail (.tail .head))))) hdne S.hm (by omega) hsc₁ (least_ok hpk.keys hasc) hlR hR S.hla S.hads (by omega)) fun v hJ tkJ kJ eJ => ?_
          obtain ⟨rfl, f₂, la₂, va₂, hdx₂, hsc₂, hla₂n, hla₂, hads₂⟩ := eJ
          refine Fx.ch1c FI kJ (by walk_at "put") hdx₂ ?_
          intro gJ kgJ FJ frJ
          have S := S.up kgJ
          have hxg := S.hx
          have hla₂ : IsL gJ la₂ va₂ := let ⟨o, e, r⟩ := hla₂; ⟨o, frJ _ _ hla₂n e, r⟩
          have hads₂ : Tups PrG _ va₂ gJ := Paired.mono (fun _ _ ⟨T, us, a, b, c, ⟨o, e, r⟩, q⟩ => ⟨T, us, a, ⟨o, frJ _ _ c e, r⟩, q⟩) hads₂
          have hpk := hpk.up kgJ
          have hal₂ : (pruneD (addAll (leastD r₁.nn sent₂) r₁.ads (rngD told)) (leastD r₁.nn sent₂)).length ≤ 9 * (i + 1) := by
            unfold pruneD; rw [List.length_map]
            refine Nat.le_trans (List.length_filter_le _ _) ?_
            have := addAll_len (leastD r₁.nn sent₂) (rngD told) r₁.ads
            omega
          generalize pruneD (addAll (leastD r₁.nn sent₂) r₁.ads (rngD told)) (leastD r₁.nn sent₂) = ads₂ at hads₂ hrun hal₂
          have hol : vo.length = r₁.out.length := S.out.length
          have hol9 : r₁.out.length ≤ 9 := Nat.le_trans hok₁.ol hok₁.nl
          have FJ := Fx.pull2 (FJ.forget (List.sublist_cons_self _ _))
          refine Fx.frzc FJ ?_
          rintro gK oK kgK hfo ⟨cK, rfl⟩ FJ
          have hfoL : IsL gK fo vo := ⟨_, hfo, rfl, cK, rfl⟩
          have S := S.up kgK
          have hxg := S.hx
          have hla₂ : IsL gK la₂ va₂ := hla₂.up kgK
          have hads₂ := hads₂.up kgK
          have hpk := hpk.up kgK
          have kCK : Sub gC gK := (((kgE.trans kgG).trans kgH).trans kgJ).trans kgK
          have k4K : Sub g₄ gK := kz.trans kCK
          have htaK : IsL gK ta vt := hta.up kCK
          walk_at "x_comp"
          repeat walk_at "s"
          rename Fx _ _ _ _ _ _ _ _ => FK
          refine compA_s (fun i ys => IntsAre ys ((r₁.out.take i).filter fun n => !told.contains n)) (fun v => [("number", some v), ("told", some (.ref ta))]) R' FK (src_l R'.handled hfoL FK.keep) (le9e hol hol9) (by walk_at "caps") .nil (fun i ys e _ => by rw [e.length]; exact Nat.le_trans (List.length_filter_le _ _) (Nat.le_trans (List.length_take_le' _ _) (le9 hol9))) ?turnO _ (fun D => by walk_at "put") ?finO (by decide +kernel) rfl rfl
          case turnO =>
            rintro C i v ys h₃ tk₃ hin hv hO k₃ G
            obtain ⟨k, hk⟩ : ∃ k, r₁.out[i]? = some k := ⟨r₁.out[i]'(hol ▸ hin), List.getElem?_eq_getElem _⟩
            obtain ⟨t, ht'⟩ := S.out.get i k hk
            rw [ht'] at hv; cases hv
            have e1 : ((r₁.out.take (i + 1)).filter fun n => !told.contains n) = ((r₁.out.take i).filter fun n => !told.contains n) ++ ([k].filter fun n => !told.contains n) := by
              rw [List.take_add_one, hk, List.filter_append]; rfl
            rw [e1]
            have htaH := htaK.up FK.keep
            repeat walk_at "s"
            refine Ways.of (fun hb => ?_) (fun hb => ?_)
            · repeat walk_at "s"
              exact PEnd.mk' (Sub.rfl' _) (by simp only [List.filter_cons, hb, if_true, List.filter_nil]; exact ints_snoc hO)
            · exact PEnd.mk' (Sub.rfl' _) (by simpa only [List.filter_cons, hb, List.filter_nil, Bool.false_eq_true, if_false, List.append_nil] using hO)
          case finO =>
            intro fo₂ vo₂ hL tkL hO hfo₂ FL
            rw [hol, List.take_length] at hO
            refine Fx.frzc FL ?_
            rintro gL oL kgL hfoL₂ ⟨cL, rfl⟩ FL
            have hfoL₂ : IsL gL fo₂ vo₂ := ⟨_, hfoL₂, rfl, cL, rfl⟩
            have S := S.up kgL
            have hxg := S.hx
            have hpk := hpk.up kgL
            have mth1 : f₂ "sent_rows" = none := hsc₂.m _ (by decide)
            repeat walk_at "s"
            refine Post.use (sent_rows_ct (n := n) (R'.less (by omega)) FL.wdh (FL.keep _ _ hxg) (FL.ownAt (.tail (.tail (.tail .head)))) (FL.ownAt (.tail (.tail .head))) S.hm (by omega) hsc₂ (hpk.up FL.keep)) fun v hM tkM kM eM => ?_
            obtain ⟨dr, kvr, rfl, hdr, hdrm, hdro, hrw⟩ := eM
            refine Fx.refrc FL kM.sub ?_
            intro gM kgM FM frM
            have hdro : ∃ o, gM.get? dr = some o ∧ DcP prog w kvr o := let ⟨o, e, p⟩ := hdro; ⟨o, frM _ _ hdr e, p⟩
            have hrw : Rows gM sent₂ kvr := Paired.mono (fun _ _ ⟨a, T, us, b, c, ⟨o, e, r⟩, q⟩ => ⟨a, T, us, b, ⟨o, frM _ _ c e, r⟩, q⟩) hrw
            have kKM : Sub gK gM := kgL.trans kgM
            have hfoL₂ : IsL gM fo₂ vo₂ := hfoL₂.up kgM
            have htaM : IsL gM ta vt := htaK.up kKM
            have hpgM : IsL gM lp vp := hpg.up ((kk₅.trans k4K).trans kKM)
            have hptM := hptg.up ((kk₅.trans k4K).trans kKM)
            have hor : ∀ n ∈ r₁.out.filter (fun n => !told.contains n), 0 ≤ n ∧ n < (r₁.nn : Int) := fun n hn => hok₁.orng n (List.mem_filter.mp hn).1
            have hol₂ : (r₁.out.filter fun n => !told.contains n).length ≤ r₁.nn := Nat.le_trans (List.length_filter_le _ _) hok₁.ol
            have hnps : r₁.nn ≤ ps.length := hok₁.np
            generalize r₁.out.filter (fun n => !told.contains n) = out₂ at hO hrun hor hol₂
            have hvo₂ : vo₂.length = out₂.length := hO.length
            have hn9 := hok₁.nl
            have ho9 : out₂.length ≤ 9 := Nat.le_trans hol₂ hn9
            repeat walk_at "s"
            walk_at "e_comp"
            repeat walk_at "s"
            rename Fx _ _ _ _ _ _ _ _ => FN
            refine compE_s (fun i ys => IntsAre ys (dueD ps now (lastD told) (out₂.take i))) (fun v => [("number", some v), ("told", some (.ref ta)), ("packs", some (.ref lp)), ("now", some (.int now tn))]) R' FN (src_l R'.handled hfoL₂ FN.keep) (le9e hvo₂ ho9) (by walk_at "caps") .nil (fun i ys e _ => by rw [e.length]; exact Nat.le_trans (List.length_filter_le _ _) (Nat.le_trans (List.length_take_le' _ _) (le9 ho9))) ?turnD ?finD (by decide +kernel) rfl rfl
            case turnD =>
              rintro C i v ys h₃ tk₃ hin hv hOO k₃ G
              obtain ⟨k, hk⟩ : ∃ k, out₂[i]? = some k := ⟨out₂[i]'(hvo₂ ▸ hin), List.getElem?_eq_getElem _⟩
              obtain ⟨t, ht'⟩ := hO.get i k hk
              rw [ht'] at hv; cases hv
              have e1 : dueD ps now (lastD told) (out₂.take (i + 1)) = dueD ps now (lastD told) (out₂.take i) ++ dueD ps now (lastD told) [k] := by
                unfold dueD; rw [List.take_add_one, hk, List.filter_append]; rfl
              rw [e1]
              obtain ⟨hk0, hkn⟩ := hor k (List.mem_of_getElem? hk)
              obtain ⟨Tp, up, hvp, hTp, tp, rfl⟩ := pk_at' hptM hk0 (by omega)
              have hlx : vt[((-1 : Int) + (vt.length : Int)).toNat]? = some (.int (lastD told) tl) := by rw [idx_last hvt hpos]; exact hla₁
              have htaH := htaM.up FN.keep
              have hpgH := hpgM.up FN.keep
              have hTpH := hTp.up FN.keep
              repeat walk_at "s"
              refine Ways.dec (fun hb => ?_) (fun hb => ?_)
              · repeat walk_at "s"
                refine Ways.dec (fun hc => ?_) (fun hc => ?_)
                · repeat walk_at "s"
                  refine PEnd.mk' (Sub.rfl' _) ?_
                  rw [dueD_one, if_pos ⟨hb, .inl hc⟩]; exact ints_snoc hOO
                · repeat walk_at "s"
                  refine Ways.dec (fun hd => ?_) (fun hd => ?_)
                  · repeat walk_at "s"
                    refine PEnd.mk' (Sub.rfl' _) ?_
                    rw [dueD_one, if_pos ⟨hb, .inr hd⟩]; exact ints_snoc hOO
                  · repeat walk_at "s"
                    refine PEnd.mk' (Sub.rfl' _) ?_
                    rw [dueD_one, if_neg (by rintro ⟨_, h | h⟩; exact hc h; exact hd h), List.append_nil]; exact hOO
              · repeat walk_at "s"
                refine PEnd.mk' (Sub.rfl' _) ?_
                rw [dueD_one, if_neg (fun h => hb h.1), List.append_nil]; exact hOO
            case finD =>
              intro fd vd hP tkP hdue kP hfd FP
              rw [hvo₂, List.take_length] at hdue
              refine Fx.frzc FP ?_
              rintro gP oP kgP hfdL ⟨cP, rfl⟩ FP
              have hfdL : IsL gP fd vd := ⟨_, hfdL, rfl, cP, rfl⟩
              have S := S.up (kgM.trans kgP)
              have hxg := S.hx
              have hdro := own_up kgP hdro
              have hrw := hrw.up kgP
              obtain ⟨tlg, hlgf⟩ := hsc₂.lg
              repeat walk_at "s"
              rename Fx _ _ _ _ _ _ _ _ => FQ
              have hkr : kvr.length ≤ 9 := by rw [← Paired.length hrw]; omega
              refine Post.use (detect_lost_ct (n := n) (R'.less (by omega)) FQ.wdh (own_up FQ.keep hdro) hdrm (by omega) (hrw.up FQ.keep) hasc) fun v hR₁ tkR kR eR => ?_
              obtain ⟨TR, DR, vR₂, yR, rfl, hTRn, hDRn, hTR, hDR, hlost⟩ := eR
              refine Fx.refrc FQ kR.sub ?_
              intro gR kgR FR frR
              have hTR : IsT gR TR [.ref DR, yR] := let ⟨o, e, r⟩ := hTR; ⟨o, frR _ _ hTRn e, r⟩
              have hDR : IsL gR DR vR₂ := let ⟨o, e, r⟩ := hDR; ⟨o, frR _ _ hDRn e, r⟩
              have S := S.up kgR
              have hxg := S.hx
              have hfdL : IsL gR fd vd := hfdL.up kgR
              repeat walk_at "s"
              rename Fx _ _ _ _ _ _ _ _ => FS
              refine ne_intsK (hDR.up FS.keep) hlost (hfdL.up FS.keep) hdue R'.cl64 ?_
              repeat walk_at "s"
              have kTo : Sub g gR := (((kk₅.trans k4K).trans kKM).trans kgP).trans kgR
              refine Ways.of (fun hb => ?_) (fun hb => ?_)
              · have hne : ¬ lostN sent₂ (lgMax r₁.lg (lastD told)) (now + mv) 150 = dueD ps now (lastD told) out₂ := by simpa using hb
                rw [if_neg hne] at hrun
                repeat walk_at "s"
                refine TurnE.rt (Back.r (Post.mk' (FS.toRd.but fun b o n e => kTo _ _ (hg b o n e)) ?_))
                unfold RunP; rw [hrun]; rfl
              · have heq : lostN sent₂ (lgMax r₁.lg (lastD told)) (now + mv) 150 = dueD ps now (lastD told) out₂ := by simpa using hb
                rw [if_pos heq] at hrun
                repeat walk_at "s"
                have S := S
                have hfoR : IsL gR fo₂ vo₂ := (hfoL₂.up kgP).up kgR
                rename Fx _ _ _ _ _ _ _ _ => FT
                walk_at "x_comp"
                repeat walk_at "s"
                rename Fx _ _ _ _ _ _ _ _ => FT
                refine compA_s (fun i ys => IntsAre ys ((out₂.take i).filter fun n => !(dueD ps now (lastD told) out₂).contains n)) (fun v => [("number", some v), ("due", some (.ref fd))]) R' FT (src_l R'.handled hfoR FT.keep) (le9e hvo₂ ho9) (by walk_at "caps") .nil (fun i ys e _ => by rw [e.length]; exact Nat.le_trans (List.length_filter_le _ _) (Nat.le_trans (List.length_take_le' _ _) (le9 ho9))) ?turnW _ (fun D => by walk_at "put") ?finW (by decide +kernel) rfl rfl
                case turnW =>
                  rintro C i v ys h₃ tk₃ hin hv hOO k₃ G
                  obtain ⟨k, hk⟩ : ∃ k, out₂[i]? = some k := ⟨out₂[i]'(hvo₂ ▸ hin), List.getElem?_eq_getElem _⟩
                  obtain ⟨t, ht'⟩ := hO.get i k hk
                  rw [ht'] at hv; cases hv
                  have e1 : ((out₂.take (i + 1)).filter fun n => !(dueD ps now (lastD told) out₂).contains n) = ((out₂.take i).filter fun n => !(dueD ps now (lastD told) out₂).contains n) ++ ([k].filter fun n => !(dueD ps now (lastD told) out₂).contains n) := by
                    rw [List.take_add_one, hk, List.filter_append]; rfl
                  rw [e1]
                  have hfdH := hfdL.up FT.keep
                  repeat walk_at "s"
                  refine Ways.of (fun hb => ?_) (fun hb => ?_)
                  · repeat walk_at "s"
                    exact PEnd.mk' (Sub.rfl' _) (by simp only [List.filter_cons, hb, if_true, List.filter_nil]; exact ints_snoc hOO)
                  · exact PEnd.mk' (Sub.rfl' _) (by simpa only [List.filter_cons, hb, List.filter_nil, Bool.false_eq_true, if_false, List.append_nil] using hOO)
                case finW =>
                  intro fo₃ vo₃ hU tkU hO₃ hfo₃ FU
                  rw [hvo₂, List.take_length] at hO₃
                  have hmn : many ≤ 9 := by omega
                  walk_at "x_comp"
                  repeat walk_at "s"
                  refine b_range fun rr hV tkV tr ur vr kV hrr => ?_
                  have FV := FU.ext kV
                  have hak := hsc₂.ack
                  have hdxH := FV.ownAt (a := dx) (.tail (.tail (.tail (.tail .head))))
                  have hxH := FV.keep _ _ hxg
                  have hla₅ : IsL gR la₂ va₂ := ((hla₂.up kKM).up kgP).up kgR
                  have hads₅ := ((hads₂.up kKM).up kgP).up kgR
                  refine compA_s (fun i ys => IntsAre ys (((nums many).take i).filter (hasN ads₂))) (fun v => [("number", some v), ("space", some (.ref x))]) R' FV (src_r R'.handled hrr (Nat.lt_of_le_of_lt hmn (by decide)) FV.keep) (le9 hmn) (by walk_at "caps") .nil (fun i ys e hi => by rw [e.length]; exact Nat.le_trans (List.length_filter_le _ _) (Nat.le_trans (List.length_take_le _ _) (by omega))) ?turnB _ (fun D => by walk_at "put") ?finB (by decide +kernel) rfl rfl
                  case turnB =>
                    rintro C i v ys h₃ tk₃ hin ⟨t, rfl⟩ hOO k₃ G
                    rw [nums_take many i hin, List.filter_append]
                    repeat walk_at "s"
                    rename Rd _ _ _ _ _ _ _ => G
                    refine Post.use (has_number_ct (n := n) (R'.less (by omega)) G.wdh ((hla₅.up FV.keep).up G.keep) ((hads₅.up FV.keep).up G.keep) (by omega)) fun v h₆ tk₆ k₆ e₆ => ?_
                    subst e₆
                    have G := G.ext k₆.sub
                    repeat walk_at "s"
                    refine Ways.of (fun hb => ?_) (fun hb => ?_)
                    · repeat walk_at "s"
                      exact PEnd.mk' k₆.sub (by simp only [List.filter_cons, hb, if_true, List.filter_nil]; exact ints_snoc hOO)
                    · exact PEnd.mk' k₆.sub (by simpa only [List.filter_cons, hb, List.filter_nil, Bool.false_eq_true, if_false, List.append_nil] using hOO)
                  case finB =>
                    intro fb vb hW tkW hB hfb FW
                    rw [show (nums many).take many = nums many by rw [List.take_of_length_le (by simp [nums])]] at hB
                    have hrw₅ := (hrw.up kgR)
                    have hdro₅ := own_up kgR hdro
                    have hls : ∀ k ∈ lostN sent₂ (lgMax r₁.lg (lastD told)) (now + mv) 150, k ∈ sent₂.map (·.1) := fun k hk => lostN_sub hk
                    have hlasc : (lostN sent₂ (lgMax r₁.lg (lastD told)) (now + mv) 150).Pairwise (· < ·) := lostN_asc hasc
                    have hlle : (lostN sent₂ (lgMax r₁.lg (lastD told)) (now + mv) 150).length ≤ sent₂.length := lostN_len
                    rw [heq] at hls hlasc hlle hrun hlost
                    generalize hlo : dueD ps now (lastD told) out₂ = lost at hls hlasc hlle hrun hlost hO₃
                    have hvR : vR₂.length = lost.length := hlost.length
                    have hl9 : lost.length ≤ 9 := Nat.le_trans hlle (Nat.le_trans hsl₂ hn9)
                    repeat walk_at "s"
                    walk_at "e_comp"
                    repeat walk_at "s"
                    rename Fx _ _ _ _ _ _ _ _ => FX
                    refine compE_t (fun i => pairsD sent₂ (lost.take i)) PrG (fun v => [("number", some v), ("rows", some (.ref dr))]) R' FX (src_l R'.handled hDR FX.keep) (le9e hvR hl9) (by walk_at "caps") rfl (fun i hi => by unfold pairsD; rw [List.length_map]; exact Nat.le_trans (List.length_filter_le _ _) (Nat.le_trans (List.length_take_le' _ _) (le9 hl9))) ?turnF ?finF (by decide +kernel) rfl rfl
                    case turnF =>
                      rintro C i v ys X h₃ tk₃ hin hv hOO k₃ hX G
                      obtain ⟨k, hk⟩ : ∃ k, lost[i]? = some k := ⟨lost[i]'(hvR ▸ hin), List.getElem?_eq_getElem _⟩
                      obtain ⟨t, ht'⟩ := hlost.get i k hk
                      rw [ht'] at hv; cases hv
                      have e1 : pairsD sent₂ (lost.take (i + 1)) = pairsD sent₂ (lost.take i) ++ pairsD sent₂ [k] := by
                        unfold pairsD; rw [List.take_add_one, hk, List.filter_append, List.map_append]; rfl
                      rw [e1]
                      obtain ⟨Tr, hva, hTr⟩ := row_at hrw₅ hasc (hls k (List.mem_of_getElem? hk))
                      obtain ⟨us, hTr, tq, uq, rfl⟩ := hTr
                      have hTrH := hTr.up FX.keep
                      have hdroH := own_up FX.keep hdro₅
                      repeat walk_at "s"
                      refine Ways.of (fun hb => ?_) (fun hb => ?_)
                      · repeat walk_at "s"
                        refine n_tupR (by simp [sizeLine_eq]) fun a h₆ k₆ ha hT₆ => ?_
                        refine PEnd.mk' k₆ ?_
                        rw [show pairsD sent₂ [k] = [(k, (rowOf sent₂ k).2.1)] by unfold pairsD; rw [List.filter_cons, if_pos hb]; rfl]
                        refine (hOO.sub k₆).add (fun hm => ?_) (none_back k₃ ha) hT₆ ⟨_, _, rfl⟩
                        have := hX a hm
                        rw [ha] at this; cases this
                      · repeat walk_at "s"
                        refine PEnd.mk' (Sub.rfl' _) ?_
                        rw [show pairsD sent₂ [k] = [] by unfold pairsD; rw [List.filter_cons, if_neg (by rw [hb]; decide)]; rfl, List.append_nil]; exact hOO
                    case finF =>
                      intro fp vq hX tkX gX hPr kgX kX hfp FY
                      rw [hvR, List.take_length] at hPr
                      have newX : ∀ {a}, gX.get? a = none → h.get? a = none := fun e => none_back (fun b o e => (kTo.trans kgX) _ _ (hg b o (by simp) e)) e
                      have hPr : NewTs h PrG [] (pairsD sent₂ lost) vq gX := Paired.mono (fun _ _ ⟨T, us, e, hX, n, i, q⟩ => ⟨T, us, e, hX, none_back (fun b o e => FX.keep _ _ (kTo _ _ (hg b o (by simp) e))) n, i, q⟩) hPr
                      have S := S.up kgX
                      have hxg := S.hx
                      have hDR := hDR.up kgX
                      have mth2 : f₂ "take" = none := hsc₂.m _ (by decide)
                      repeat walk_at "s"
                      rename Fx _ _ _ _ _ _ _ _ => FZ
                      have n1 := newX (FZ.fresh .head)
                      have n2 := newX (FZ.fresh (.tail .head))
                      have n3 := newX (FZ.fresh (.tail (.tail .head)))
                      refine Fx.frzc FZ ?_
                      rintro g1 o1 kg1 hT1 hTP1 FZ
                      refine Fx.frzc FZ ?_
                      rintro g2 o2 kg2 hp2 hpP2 FZ
                      refine Fx.frzc FZ ?_
                      rintro g3 o3 kg3 hb3 hbP3 FZ
                      have hT1 := (hTP1.isT hT1).up (kg2.trans kg3)
                      have hp2 := (hpP2.isL hp2).up kg3
                      have hb3 := hbP3.isL hb3
                      have k13 := (kg1.trans kg2).trans kg3
                      have hdnZ := FZ.fresh (a := d) (.tail (.tail (.tail .head)))
                      obtain ⟨Wb, kb, kgb⟩ := FZ.all_but hdnZ
                      have hdxb : ∃ o, (dropAt _ [d]).get? dx = some o ∧ ObjP 17 f₂ o := let ⟨o, e, p⟩ := FZ.ownAt (a := dx) (.tail (.tail (.tail (.tail .head)))); ⟨o, dropAt_get (by simpa using fun e => hdne e.symm) e, p⟩
                      refine Post.use (take_ct (n := n) (R'.less (by omega)) Wb kb (kgb _ _ (k13 _ _ hxg)) hdxb (FZ.ownAt (.tail (.tail (.tail .head)))) (dropAt_in (by simp)) S.hm (by omega) hsc₂ ((hDR.up k13).up kgb) hlost hlasc (by omega)) fun v hE tkE kE eE => ?_
                      refine Fx.ch1c FZ kE (by walk_at "put") eE ?_
                      intro gE kgE FE _
                      have kXE := (kgX.trans k13).trans kgE
                      have kKE : Sub gK gE := ((kKM.trans kgP).trans kgR).trans kXE
                      have S := S.up (k13.trans kgE)
                      have kall : Sub g₃ gE := ((k₅.trans k4K).trans (((kKM.trans kgP).trans kgR))).trans kXE
                      repeat walk_at "s"
                      refine TurnE.nxt FE.put2 kall ⟨⟨r₁.nn, some (lgMax r₁.lg (lastD told)), minusP sent₂ lost, ads₂, out₂.filter fun n => !lost.contains n⟩, fs ++ [(pairsD sent₂ lost, (nums many).filter (hasN ads₂))], ⟨minusP_asc lost hasc, fun p hp => hsr₂ p (List.mem_filter.mp hp).1, Nat.le_trans (List.length_filter_le _ _) hsl₂, Nat.le_trans (List.length_filter_le _ _) hol₂, fun n hn => hor n (List.mem_filter.mp hn).1, hal₂, hok₁.np, hok₁.n9⟩, by simp [hfl₀], ?_, x, dx, d, la₂, f₂, _, vo₃, va₂, _, fo₃, ff,
                        ⟨S.hx, hsc₂, S.hm, (((hpk.up (kgM.trans kgP)).up kgR).up kXE).minus lost, hla₂.up kKE, hads₂.up kKE, hO₃, Paired.snoc S.fnd ⟨_, _, _, _, _, rfl, n1, n2, n3, hT1.up kgE, hp2.up kgE, (hPr.sub k13).sub kgE, hb3.up kgE, hB⟩⟩, rfl, _, _, _, _, _, _, _, _, _, _, rfl⟩
                      rw [hrun]
                      simp only [Option.bind_some, Option.map_map]
                      congr 1
                      funext q
                      simp
end
end PC18
section PEnu
open PySem PySem.W PyProof.Rows PySem.Calls
set_option Elab.async false
set_option linter.unusedVariables false
set_option maxRecDepth 100000
section
open PySem.Builtin PySem.AutoSeq1
variable {prog : Program} {w : World} {A : Around} {E : Value → Shared → Prop} {s : Shared}
theorem next_tup {it l : Addr} {i : Nat} {items : Array Value} {x : Value} {Q : Value → Shared → Prop} (hit : s.heap.IsTupleIter it l i)
    (hl : s.heap.IsTuple l items) (hx : items[i]? = some x) (hQ : ∀ h', h'.IsTupleIter it l (i + 1) → Heap.SameBut it s.heap h' → Q x { s with heap := h' }) :
    wpAny (model prog w) A (Builtin.SmallTypes.nextOf (.ref it)) Q E s := by
  obtain ⟨o, ho, hc, hd⟩ := id hit
  obtain ⟨ol, hol, _, nl, hdl⟩ := hl
  unfold Builtin.SmallTypes.nextOf
  refine wpAny_bind (wpAny_callSpecial?_slot (name := Str.ofString "__next__") hit.typeIs F.slot_tuple_iterator_next
    (wpAny_call_entry F.slot_tuple_iterator_next hit.typeIs F.entry_tuple_iterator_next ?_ (F.args_tuple_iterator_next_1 _)))
  show wpAny _ _ (field (.ref it) 0 >>= _) _ _ s
  refine wpAny_bind (wpAny_field ho hd (x := .ref l) rfl ?_)
  show wpAny _ _ (if (Value.ref l == Value.none) = true then _ else _) _ _ s
  rw [if_neg (show ¬ ((Value.ref l == Value.none) = true) from Bool.false_ne_true)]
  show wpAny _ _ (field (.ref it) 1 >>= _) _ _ s
  refine wpAny_bind (wpAny_field ho hd (x := .int i 0) rfl ?_)
  show wpAny _ _ (seqItems? (.ref l) >>= _) _ _ s
  refine wpAny_bind (wpAny_seqItems hol hdl ?_)
  simp only [Int.toNat_natCast, hx]
  refine wpAny_bind (wpAny_setField ho hd (by simp) (wpAny_pure ⟨x, rfl, wpAny_pure (hQ _ ?_ (Heap.SameBut.update ..))⟩))
  exact ⟨_, Heap.get?_update_self _ ho (Obj.isFreed_of_fields (Obj.data_mapFields hd _)), (Obj.cls_mapFields ..).trans hc, by
    rw [Obj.data_mapFields hd]; simp [rawInt]⟩
theorem next_tup_end {it l : Addr} {i : Nat} {items : Array Value} {Q : Value → Shared → Prop} (hh : A.handled = none)
    (hit : s.heap.IsTupleIter it l i) (hl : s.heap.IsTuple l items) (hx : items[i]? = none)
    (hE : ∀ h' e, Heap.ExtBut it s.heap h' → (∃ o, h'.get? e = some o ∧ o.cls = .type "StopIteration") → E (.ref e) { s with heap := h' }) :
    wpAny (model prog w) A (Builtin.SmallTypes.nextOf (.ref it)) Q E s := by
  obtain ⟨o, ho, hc, hd⟩ := id hit
  obtain ⟨ol, hol, _, nl, hdl⟩ := hl
  unfold Builtin.SmallTypes.nextOf
  refine wpAny_bind (wpAny_callSpecial?_slot (name := Str.ofString "__next__") hit.typeIs F.slot_tuple_iterator_next
    (wpAny_call_entry F.slot_tuple_iterator_next hit.typeIs F.entry_tuple_iterator_next ?_ (F.args_tuple_iterator_next_1 _)))
  show wpAny _ _ (field (.ref it) 0 >>= _) _ _ s
  refine wpAny_bind (wpAny_field ho hd (x := .ref l) rfl ?_)
  show wpAny _ _ (if (Value.ref l == Value.none) = true then _ else _) _ _ s
  rw [if_neg (show ¬ ((Value.ref l == Value.none) = true) from Bool.false_ne_true)]
  show wpAny _ _ (field (.ref it) 1 >>= _) _ _ s
  refine wpAny_bind (wpAny_field ho hd (x := .int i 0) rfl ?_)
  show wpAny _ _ (seqItems? (.ref l) >>= _) _ _ s
  refine wpAny_bind (wpAny_seqItems hol hdl ?_)
  simp only [Int.toNat_natCast, hx]
  refine wpAny_bind (wpAny_rule (wpAny_bind (wpAny_setField ho hd (by simp) ?_)))
  show wpAny _ _ (newExc (.type "StopIteration") [] >>= _) _ _ _
  refine wpAny_bind ?_
  simp only [newExc, newTuple]
  refine wpAny_bind (wpAny_newObj_type ?_ (by size_fits))
  refine wpAny_bind (m := firstArgMember _ _) (wpAny_of_eq (a := Value.none) (by first | rfl | (simp only [firstArgMember]; rfl)) ?_)
  refine wpAny_newObj_type ?_ (by size_fits)
  simp only [raiseNew]
  refine wpAny_bind (wpAny_handled ?_)
  first | rw [show A.in1.handled = none from hh] | rw [hh]
  refine wpAny_bind (wpAny_pure (wpAny_throw ?_))
  exact hE _ _ (((Heap.SameBut.update ..).extBut.push _).push _) ⟨_, Heap.get?_push_size _ rfl, rfl⟩
theorem draws_tup (hh : A.handled = none) (it l : Addr) (hne : l ≠ it) (items : Array Value) :
    Draws prog w A it [it, l] items.size (fun i v => items[i]? = some v) (fun i h => h.IsTupleIter it l i ∧ h.IsTuple l items) where
  live := fun _ _ st => let ⟨o, ho, _⟩ := st.1; ⟨o, ho⟩
  frame := fun _ _ _ st hk => ⟨st.1.at fun o e => hk it (by simp) o e, let ⟨o, e, r⟩ := st.2; ⟨o, hk l (by simp) o e, r⟩⟩
  item := fun i s Q E hi st hQ => by
    refine next_tup st.1 st.2 (x := items[i]) (by simp [hi]) fun h' hit' hs' => ?_
    exact hQ _ h' s.toks (by simp [hi]) ⟨hit', let ⟨o, e, r⟩ := st.2; ⟨o, hs'.extBut l o hne e, r⟩⟩ hs'
  done := fun s Q E st hE => next_tup_end hh st.1 st.2 (by simp) hE
theorem wpAny_pure_any {α : Type} {M : Model} {a : α} {Q : α → Shared → Prop} (h : ∀ a, Q a s) : wpAny M A (pure a) Q E s := wpAny_pure (h a)
theorem meets_enumT (l : Addr) (items : Array Value) (n : Nat) (dct : Option Addr) (sl : Array (Option Value)) :
    Meets (Builtin.«enumerate.__new__» ⟨[.type "enumerate", .ref l], []⟩) (fun _ R s => s.heap.get? l = some { cls := .type "tuple", dict := dct, data := .seq items n, slots := sl } ∧
      R (.ok (.ret (.ref (s.heap.push { cls := .type "tuple_iterator", data := .fields #[.ref l, .int 0 0] }).objs.size)))
        { s with heap := (s.heap.push { cls := .type "tuple_iterator", data := .fields #[.ref l, .int 0 0] }).push { cls := .type "enumerate", data := .fields #[.none, .bool false, .ref s.heap.objs.size, rawInt 0, .none, .none] } }) :=
  .of_wp fun prog w A R s h => by
    obtain ⟨hp, g, d, tk, os⟩ := s; obtain ⟨hl, h⟩ := h
    have hsub := sub_enumerate
    have hL : Heap.IsTuple (Shared.heap ⟨hp, g, d, tk, os⟩) l items := ⟨_, hl, rfl, n, rfl⟩
    wp_walk using wpAny_loadPart' hl
    refine wpAny_stack_any fun st => wpAny_pure_any fun b => ?_
    cases b
    · wp_walk using wpAny_loadPart' hl, wpAny_pyIter_tuple hL
      exact ⟨_, rfl, h⟩
    · wp_walk using wpAny_loadPart' hl, wpAny_pyIter_tuple hL
      exact ⟨_, rfl, h⟩
theorem call_enumT {l : Addr} {items : Array Value} {Q : Value → Shared → Prop} (hL : s.heap.IsTuple l items)
    (h : ∀ h', IsEnum h' (s.heap.objs.size + 1) s.heap.objs.size 0 .none → h'.IsTupleIter s.heap.objs.size l 0 → h'.objs.size = s.heap.objs.size + 2 →
      (∀ b o, s.heap.get? b = some o → h'.get? b = some o) → Q (.ref (s.heap.objs.size + 1)) { s with heap := h' }) :
    wpAny (model prog w) A (call (.type "enumerate") [.ref l]) Q E s := by
  obtain ⟨⟨c, dct, dt, sl⟩, hl, hc, n, hd⟩ := hL
  replace hc : c = .type "tuple" := hc
  replace hd : dt = .seq items n := hd
  subst hc hd
  refine callType_new F.called_enumerate (by decide) (F.typeCall_enumerate_1 _) (F.newCall_enumerate_1 _) (fun obj => F.args_object_init_2 obj _) F.entry_enumerate_new
    (meets_enumT l items n dct sl) ⟨hl, ?_⟩
  have hz : (s.heap.push { cls := .type "tuple_iterator", data := .fields #[.ref l, .int 0 0] }).objs.size = s.heap.objs.size + 1 := Heap.size_push ..
  show _ ∧ _
  rw [hz]
  have he : IsEnum ((s.heap.push { cls := .type "tuple_iterator", data := .fields #[.ref l, .int 0 0] }).push
      { cls := .type "enumerate", data := .fields #[.none, .bool false, .ref s.heap.objs.size, rawInt 0, .none, .none] }) (s.heap.objs.size + 1) s.heap.objs.size 0 .none := by
    have := Heap.get?_push_size (s.heap.push { cls := .type "tuple_iterator", data := .fields #[.ref l, .int 0 0] })
      (o := { cls := .type "enumerate", data := .fields #[.none, .bool false, .ref s.heap.objs.size, rawInt 0, .none, .none] }) rfl
    rw [hz] at this; exact this
  refine ⟨⟨_, he, rfl⟩, h _ he ⟨_, Heap.get?_push_of_some _ (Heap.get?_push_size _ rfl), rfl, rfl⟩ (by rw [Heap.size_push, hz]) fun b o x => Heap.get?_push_of_some _ (Heap.get?_push_of_some _ x)⟩
end
section
variable {w : World} {mg mb : Str → Option Value} {g h : Heap} {env : Env} {V V' : List (Str × Option Value)} {M M' : List (Addr × (Obj → Prop))}
variable {prog : Program} {A : Around} {E : Value → Shared → Prop} {s : Shared} {tk : Nat}
theorem forEnum {elts : List Expr} {k : Nat} {pos : Pos} {l : Addr} {vs : List Value} {body rest : List Stmt} {Q : Flow → Shared → Prop} (J : Nat → Heap → List (Str × Option Value) → List (Addr × (Obj → Prop)) → Prop)
    (hh : A.handled = none) (F : Fx w mg mb g env V M h) (hl : IsT g l vs) (hJ0 : J 0 g V M)
    (turn : ∀ i T t x g₁ V₁ M₁ h₁ tk₁ e oe it oi, vs[i]? = some x → J i g₁ V₁ M₁ → Sub g g₁ → IsT h₁ T [.int i t, x] → Fx w mg mb g₁ env V₁ ((e, (· = oe)) :: (it, (· = oi)) :: M₁) h₁ →
      wpAny (model prog w) A (assign (.Tuple elts k pos) env (.ref T)) (fun _ s' => wpAny (model prog w) A (execs body env) (TurnE w mg mb s env g₁ e oe (fun g V M => ∃ M₀, M = (it, (· = oi)) :: M₀ ∧ J (i + 1) g V M₀) (fun s' => wpAny (model prog w) A (execs rest env) Q E s') (fun v s' => Q (.ret v) s')) (fun _ _ => False) s') (fun _ _ => False) (upd s h₁ tk₁))
    (done : ∀ g₁ V₁ M₁ h₁ tk₁, J vs.length g₁ V₁ M₁ → Sub g g₁ → Fx w mg mb g₁ env V₁ M₁ h₁ → wpAny (model prog w) A (execs rest env) Q E (upd s h₁ tk₁)) :
    wpAny (model prog w) A (call (.type "enumerate") [.ref l]) (fun xv s₁ => ForL prog w A E env (.Tuple elts k pos) body rest Q xv s₁) E (upd s h tk) := by
  obtain ⟨og, hog, _⟩ := id hl
  have hlt : l < h.objs.size := Heap.lt_size (F.keep _ _ hog)
  refine call_enumT (s := upd s h tk) (hl.up F.keep) fun h' hE hI hsz hk => ?_
  show wpAny _ _ (pyIter _) _ _ _
  refine wpAny_pyIter_enum hE ?_
  have W := WalksT.enumerateD (prog := prog) (w := w) (draws_tup (A := A.in1) hh h.objs.size l (Nat.ne_of_lt hlt) vs.toArray) (h.objs.size + 1) (Nat.succ_ne_self _) (by simp only [List.mem_cons, List.not_mem_nil, or_false, not_or]; exact ⟨Nat.succ_ne_self _, Nat.ne_of_gt (Nat.lt_succ_of_lt hlt)⟩) (by simp)
  have hE' : IsEnum h' (h.objs.size + 1) h.objs.size 0 .none := hE
  have hI' : h'.IsTupleIter h.objs.size l 0 := hI
  have hk' : Sub h h' := hk
  obtain ⟨oI, hoI, _⟩ := id hI'
  have hen : h.get? (h.objs.size + 1) = none := none_back (Sub.push h _) (by rw [← fresh_size (h.push oI), Heap.size_push])
  have F₀ := F.adopts hk' [(h.objs.size + 1, AnyP), (h.objs.size, AnyP)] (by
    intro p hp
    simp only [List.mem_cons, List.not_mem_nil, or_false] at hp
    rcases hp with rfl | rfl
    · exact ⟨hen, _, hE', trivial⟩
    · exact ⟨fresh_size h, _, hoI, trivial⟩) (by simp)
  show codeAny (model prog w) A (.forLoop (.Tuple elts k pos) (.ref (h.objs.size + 1)) body [] env) _ (upd s h' tk)
  have hl' : IsT h' l vs := (hl.up F.keep).up hk'
  clear hE hI hsz hk hen
  generalize h.objs.size + 1 = e at W hE' F₀ ⊢
  generalize h.objs.size = it at W hI' F₀ hoI hE' hlt ⊢
  refine codeAny_forLoop_any (fun m s' => ∃ i gi Vi Mi hi tki, s' = upd s hi tki ∧ i ≤ vs.length ∧ m = vs.length - i ∧ J i gi Vi Mi ∧ Sub g gi ∧ Fx w mg mb gi env Vi ((e, AnyP) :: (it, AnyP) :: Mi) hi ∧ (∃ old, IsEnum hi e it (i : Int) old) ∧ hi.IsTupleIter it l i ∧ hi.IsTuple l vs.toArray) ?_ vs.length
    ⟨0, g, V, M, h', tk, rfl, Nat.zero_le _, rfl, hJ0, Sub.rfl' _, F₀, ⟨_, hE'⟩, hI', hl'⟩
  rintro m s' ⟨i, gi, Vi, Mi, hi, tki, rfl, hin, rfl, hJ, kg, Fi, hsti⟩
  by_cases hlt : i < vs.length
  · refine W.item i _ _ _ (by simpa using hlt) hsti fun T vals h₁ tk₁ hP hTs hT hMid hk₁ => ?_
    obtain ⟨t, x, hx, rfl⟩ := hP
    have hTw := W.apart _ _ _ hMid
    refine W.go elts k pos i T _ _ _ hMid fun h₂ hst₂ hk₂ => ?_
    have hT₂ : IsT h₂ T [.int i t, x] := let ⟨o, ho, r⟩ := hT; ⟨o, hk₂ _ _ hTw ho, r⟩
    have hst₂' := hst₂
    obtain ⟨⟨old, he₂⟩, ⟨oi, hoi, hoi'⟩, hl₂⟩ := hst₂'
    obtain ⟨oe, hoe⟩ : ∃ oe, h₂.get? e = some oe := ⟨_, he₂⟩
    have hnd : ((e, AnyP) :: (it, AnyP) :: Mi).map (·.1) |>.Nodup := (List.nodup_append.mp (List.nodup_cons.mp Fi.nd).2).2.1
    simp only [List.map_cons, List.nodup_cons, List.mem_cons, not_or] at hnd
    have Fi₂ : Fx w mg mb gi env Vi ((e, (· = oe)) :: (it, (· = oi)) :: Mi) h₂ := by
      refine Fi.changes (mods := [e, it]) (fun b o hb q => hk₂ _ _ hb (hk₁ b o hb q)) (by simp) rfl ?_
      intro p hp
      rcases List.mem_cons.mp hp with rfl | hp
      · exact ⟨oe, hoe, rfl⟩
      · rcases List.mem_cons.mp hp with rfl | hp
        · exact ⟨oi, hoi, rfl⟩
        · obtain ⟨o, ho, r⟩ := Fi.own p (.tail _ (.tail _ hp))
          have hm : p.1 ∉ [e, it] := by
            simp only [List.mem_cons, List.not_mem_nil, or_false, not_or]
            have : p.1 ∈ Mi.map (·.1) := List.mem_map.mpr ⟨p, hp, rfl⟩
            exact ⟨fun q => hnd.1.2 (q ▸ this), fun q => hnd.2.1 (q ▸ this)⟩
          exact ⟨o, hk₂ _ _ hm (hk₁ _ _ hm ho), r⟩
    refine wpAny_mono (turn i T t x gi Vi Mi h₂ tk₁ e oe it oi (by simpa using hx) hJ kg hT₂ Fi₂) (fun _ s₂ h₂ => wpAny_mono h₂ (fun f s₃ h₃ => ?_) fun _ _ e => e.elim) fun _ _ e => e.elim
    have fin : ∀ s₃, (∃ g₂ V₂ M₂ h₂ tk₂, s₃ = upd s h₂ tk₂ ∧ Sub gi g₂ ∧ (∃ M₀, M₂ = (it, (· = oi)) :: M₀ ∧ J (i + 1) g₂ V₂ M₀) ∧ Fx w mg mb g₂ env V₂ ((e, (· = oe)) :: M₂) h₂) → ∃ m, m < vs.length - i ∧ ∃ i' gi Vi Mi hi tki, s₃ = upd s hi tki ∧ i' ≤ vs.length ∧ m = vs.length - i' ∧ J i' gi Vi Mi ∧ Sub g gi ∧ Fx w mg mb gi env Vi ((e, AnyP) :: (it, AnyP) :: Mi) hi ∧ (∃ old, IsEnum hi e it (i' : Int) old) ∧ hi.IsTupleIter it l i' ∧ hi.IsTuple l vs.toArray := by
      rintro _ ⟨g₂, V₂, M₂, h₃, tk₂, rfl, k₂, ⟨M₀, rfl, j₂⟩, F₂⟩
      refine ⟨vs.length - (i + 1), by omega, i + 1, g₂, V₂, M₀, h₃, tk₂, rfl, hlt, rfl, j₂, kg.trans k₂, (F₂.weaken .head fun _ _ _ _ => trivial).weaken (.tail .head) fun _ _ _ _ => trivial, W.frame _ _ _ hst₂ fun b hb o q => ?_⟩
      simp only [List.mem_cons, List.not_mem_nil, or_false] at hb
      rcases hb with rfl | rfl | rfl
      · obtain ⟨o', ho', e'⟩ := F₂.own _ (.head _)
        rw [hoe] at q; cases q
        rw [ho', e']
      · obtain ⟨o', ho', e'⟩ := F₂.own _ (.tail _ (.head _))
        rw [hoi] at q; cases q
        rw [ho', e']
      · have e1 := Fi₂.keep _ _ (kg _ _ hog)
        rw [e1] at q; cases q
        exact F₂.keep _ _ (k₂ _ _ (kg _ _ hog))
    cases f with
    | brk => exact h₃
    | ret v => exact h₃
    | next => exact fin _ h₃
    | cont => exact fin _ h₃
  · have hin' : i = vs.length := by omega
    subst hin'
    refine W.done _ _ _ (by rw [List.size_toArray]; exact hsti) fun h₁ tk₁ hk₁ => ?_
    have F₁ := Fi.behead (h' := dropAt hi [e]) fun b o hb q => dropAt_get (by simpa using hb) q
    have Fd : Fx w mg mb gi env Vi Mi h₁ := F₁.behead fun b o hb q => by
      have hbe : b ≠ e := fun q' => by rw [q', dropAt_in (by simp)] at q; cases q
      exact hk₁ b o (by simp [hb, hbe]) (dropAt_sub _ _ b o q)
    exact x_nil (done gi Vi Mi h₁ tk₁ hJ kg Fd)
end
end PEnu
section PLw
open PySem PySem.W PyProof.Rows PySem.Calls PySem.SeqAt
set_option Elab.async false
set_option linter.unusedVariables false
set_option maxRecDepth 100000
noncomputable def pairP (p : Int × Int) : PyData := .tuple [.int p.1, .int p.2]
noncomputable def foundP (f : Found) : PyData := .tuple [.list (f.1.map pairP), .list (f.2.map .int)]
noncomputable def foundsP (fs : List Found) : PyData := .list (fs.map foundP)
theorem readsAll_ints {h : Heap} {vs : List Value} {ns : List Int} (x : IntsAre vs ns) : ∃ as, ReadsAll h vs (ns.map .int) as := by
  induction x with
  | nil => exact ⟨_, .nil⟩
  | cons n t _ ih => obtain ⟨as, r⟩ := ih; exact ⟨_, .cons (.int n t) r⟩
theorem readsAll_pairs {h : Heap} {vs : List Value} {ds : List (Int × Int)} (x : Tups PrG ds vs h) : ∃ as, ReadsAll h vs (ds.map pairP) as := by
  induction x with
  | nil => exact ⟨_, .nil⟩
  | cons a _ ih =>
    obtain ⟨as, r⟩ := ih
    obtain ⟨T, us, rfl, ⟨o, ho, hc, n, hd⟩, t, u, rfl⟩ := a
    exact ⟨_, .cons (.tuple ho hc hd (.cons (.int _ t) (.cons (.int _ u) .nil))) r⟩
theorem readsAll_founds {h : Heap} {vs : List Value} {fs : List Found} (x : Founds h fs vs) : ∃ as, ReadsAll h vs (fs.map foundP) as := by
  induction x with
  | nil => exact ⟨_, .nil⟩
  | cons a _ ih =>
    obtain ⟨as, r⟩ := ih
    obtain ⟨T, a, b, va, vb, rfl, ⟨o, ho, hc, n, hd⟩, ⟨oa, hoa, hca, na, hda⟩, hp, ⟨ob, hob, hcb, nb, hdb⟩, hi⟩ := a
    obtain ⟨as₁, r₁⟩ := readsAll_pairs hp
    obtain ⟨as₂, r₂⟩ := readsAll_ints (h := h) hi
    exact ⟨_, .cons (.tuple ho hc hd (.cons (.list hoa hca hda r₁) (.cons (.list hob hcb hdb r₂) .nil))) r⟩
theorem reads_founds {h : Heap} {a : Addr} {vs : List Value} {fs : List Found} (hl : IsL h a vs) (x : Founds h fs vs) : ∃ as, Reads h (.ref a) (foundsP fs) as := by
  obtain ⟨o, ho, hc, n, hd⟩ := hl
  obtain ⟨as, r⟩ := readsAll_founds x
  exact ⟨_, .list ho hc hd r⟩
noncomputable def foundsS : PySem.Spec.Shape := .list (.tuple [.list (.tuple [.int, .int]), .list .int])
theorem has_founds (fs : List Found) : foundsS.has (foundsP fs) = true := by
  simp [foundsS, foundsP, foundP, pairP, PySem.Spec.Shape.has, PySem.Spec.Shape.hasAll, List.all_map, List.all_eq_true]
theorem canLay_pairs : ∀ ds : List (Int × Int), PyData.canLayAll0 (ds.map pairP) = true
  | [] => by simp [PyData.canLayAll0]
  | p :: r => by simp [PyData.canLayAll0, PyData.canLay0, pairP, canLay_pairs r]
theorem canLay_founds : ∀ fs : List Found, PyData.canLayAll0 (fs.map foundP) = true
  | [] => by simp [PyData.canLayAll0]
  | f :: r => by simp [PyData.canLayAll0, PyData.canLay0, foundP, canLay_pairs, canLayAll0_ints, canLay_founds r]
theorem depth_pairs : ∀ ds : List (Int × Int), PyData.depthAll (ds.map pairP) ≤ 3
  | [] => by simp [PyData.depthAll]
  | p :: r => by
    have := depth_pairs r
    simp only [List.map_cons, PyData.depthAll, PyData.depth, pairP]
    omega
theorem depth_founds : ∀ fs : List Found, PyData.depthAll (fs.map foundP) ≤ 8
  | [] => by simp [PyData.depthAll]
  | f :: r => by
    have := depth_founds r
    have h1 := depth_pairs f.1
    have h2 := W.depthAll_ints f.2
    simp only [List.map_cons, PyData.depthAll, PyData.depth, foundP]
    omega
theorem shaped_founds (fs : List Found) : shaped (foundsP fs) = true := by
  have h1 := depth_founds fs
  have h2 : PyData.depth (foundsP fs) ≤ 64 := by simp only [foundsP, PyData.depth]; omega
  show (PyData.canLay0 (foundsP fs) && decide (PyData.depth (foundsP fs) ≤ 64)) = true
  rw [Bool.and_eq_true]
  exact ⟨by simp only [foundsP, PyData.canLay0]; exact canLay_founds fs, decide_eq_true h2⟩
section
variable {w : World} {mg mb : Str → Option Value} {g h : Heap} {env : Env} {V V' : List (Str × Option Value)} {M M' : List (Addr × (Obj → Prop))}
variable {prog : Program} {A : Around} {E : Value → Shared → Prop} {s : Shared} {tk : Nat}
theorem ne_founds {a b : Addr} {va vb : List Value} {fs : List Found} {n : Nat} {Q : Value → Shared → Prop} (R : Room n A) (ha : IsL h a va) (xa : Founds h fs va) (hb : IsL h b vb) (xb : Founds h fs vb) (q : Q (.bool false) (upd s h tk)) :
    wpAny (model prog w) A (compareOp .NotEq (.ref a) (.ref b)) Q E (upd s h tk) := by
  obtain ⟨as, ra⟩ := reads_founds ha xa
  obtain ⟨bs, rb⟩ := reads_founds hb xb
  refine ne_dataH_same (s := upd s h tk) ra rb (shaped_founds fs) (shaped_founds fs) R.cl64 (noMix_of_shape foundsS (by simp [foundsS, plainShape, plainShapes]) _ _ (has_founds fs) (has_founds fs)) ?_
  rw [same_refl]; exact q
theorem b_listl {l : Addr} {vs : List Value} {Q : Value → Shared → Prop} (F : Fx w mg mb g env V M h) (hl : IsL h l vs) (hz : vs.length ≤ sizeLine) (q : ∀ a h', Fx w mg mb g env V ((a, LstP vs) :: M) h' → Sub h h' → Q (.ref a) (upd s h' tk)) :
    wpAny (model prog w) A (call (.type "list") [.ref l]) Q E (upd s h tk) := by
  obtain ⟨o, ho, hc, n, hd⟩ := hl
  refine call_list_seq (s := upd s h tk) l (.inl rfl) ho hc hd (fun h' c' k e => ?_) (by simpa using hz)
  exact q _ h' (F.adopt (P := LstP vs) k (fresh_size h) e ⟨c', rfl⟩) k
theorem i_pow {b : Int} {t u : Tok} {Q : Value → Shared → Prop} (h0 : 0 ≤ b) (h1 : b ≤ 9) (q : ∀ t tk', Q (.int (10 ^ b.toNat) t) (upd s h tk')) : wpAny (model prog w) A (binaryOp .Pow (.int 10 t) (.int b u)) Q E (upd s h tk) :=
  pow_int_small (s := upd s h tk) h0 (by omega) (by decide) (q _ _)
theorem b_max3 {l : Addr} {a b c : Int} {t u v : Tok} {n : Nat} {Q : Value → Shared → Prop} (R : Room n A) (F : Fx w mg mb g env V M h) (hl : IsL h l [.int a t, .int b u, .int c v]) (hac : a ≤ c) (hbc : b ≤ c) (q : ∀ h' t tk', Sub h h' → Fx w mg mb g env V M h' → Q (.int c t) (upd s h' tk')) :
    wpAny (model prog w) A (call (.builtin "max") [.ref l]) Q E (upd s h tk) := by
  have e : ([.int a t, .int b u, .int c v] : List Value).toArray = intItems #[(a, t), (b, u), (c, v)] := by simp [intItems]
  unfold IsL at hl
  rw [e] at hl
  refine max_intList (s := upd s h tk) R.handled hl (by simp) fun x h' tk' hx k => ?_
  obtain ⟨t', rfl⟩ := intItems_at hx
  obtain ⟨h1, h2⟩ := argBest_gt (numAt #[(a, t), (b, u), (c, v)]) 2
  have e3 : numAt #[(a, t), (b, u), (c, v)] (argBest (fun i j => decide (numAt #[(a, t), (b, u), (c, v)] i > numAt #[(a, t), (b, u), (c, v)] j)) 2) = c := by
    have h3 := h2 2 (by omega)
    have e4 : numAt #[(a, t), (b, u), (c, v)] 2 = c := rfl
    rw [e4] at h3
    generalize argBest (fun i j => decide (numAt #[(a, t), (b, u), (c, v)] i > numAt #[(a, t), (b, u), (c, v)] j)) 2 = i at h1 h3 ⊢
    have : i = 0 ∨ i = 1 ∨ i = 2 := by omega
    rcases this with rfl | rfl | rfl
    · have e5 : numAt #[(a, t), (b, u), (c, v)] 0 = a := rfl
      rw [e5] at h3 ⊢; omega
    · have e5 : numAt #[(a, t), (b, u), (c, v)] 1 = b := rfl
      rw [e5] at h3 ⊢; omega
    · rfl
  have := q h' t' tk' k (F.ext k)
  rw [← e3] at this
  exact this
theorem pick_upto {vs : List Value} {b : Int} (h : 0 ≤ b) : slicePick vs.toArray none (some b) none = (vs.take b.toNat).toArray := by
  obtain ⟨k, rfl⟩ := Int.eq_ofNat_of_zero_le h
  simpa using slicePick_upto' vs.toArray k
theorem pick_from {vs : List Value} {b : Int} (h : 0 ≤ b) : slicePick vs.toArray (some b) none none = (vs.drop b.toNat).toArray := by
  obtain ⟨k, rfl⟩ := Int.eq_ofNat_of_zero_le h
  simpa using slicePick_from' vs.toArray k
noncomputable def BoxP (l : Addr) (spot : Nat) : Obj → Prop := fun o => ∃ t n, o = listOf #[.ref l, .int spot t] n
theorem take_use {l b : Addr} {vs : List Value} {ns : List Int} {spot : Nat} {many : Int} {t1 : Tok} {n : Nat} {Q : Value → Shared → Prop} (R : Room (n+1) A) (F : Fx w mg mb g env V M h) (hl : IsL g l vs) (hi : IntsAre vs ns) (hlen : ns.length ≤ 64) (hs : spot ≤ 64) (hm : 0 < many)
    (hb : At b (BoxP l spot) M) (hp : Put b (BoxP l (spot + 1)) M M') (q : ∀ h' tk' t, Fx w mg mb g env V M' h' → Q (.int (draw ns spot many) t) (upd s h' tk')) :
    wpAny (model prog w) A (call (.ref 267) [.ref b, .int many t1]) Q E (upd s h tk) := by
  obtain ⟨o, ho, t0, c, rfl⟩ := F.ownAt hb
  refine Post.use (law_take_ct R F.wd F.keep hl hi hlen hs hm ho (F.fresh hb)) fun v h' tk' k e => ?_
  obtain ⟨⟨t, rfl⟩, t', n', e'⟩ := e
  exact q h' tk' t (F.put hp (fun b o hb e => k b o (by simpa using hb) e) e' ⟨t', n', rfl⟩)
theorem draw_rng (ns : List Int) (spot : Nat) {many : Int} (h : 0 < many) : 0 ≤ draw ns spot many ∧ draw ns spot many < many := by
  unfold draw
  split
  · exact ⟨Int.emod_nonneg _ (by omega), Int.emod_lt_of_pos _ h⟩
  · exact ⟨Int.emod_nonneg _ (by omega), Int.emod_lt_of_pos _ h⟩
theorem Fx.weak {a : Addr} {P Q : Obj → Prop} (F : Fx w mg mb g env V M h) (hm : At a P M) (hp : Put a Q M M') (hi : ∀ o, P o → Q o) : Fx w mg mb g env V M' h := let ⟨_, e, p⟩ := F.ownAt hm; F.put hp (fun _ _ _ e => e) e (hi _ p)
theorem ints_take : ∀ {vs : List Value} {ns : List Int} (k : Nat), IntsAre vs ns → IntsAre (vs.take k) (ns.take k)
  | _, _, 0, _ => .nil
  | _, _, k + 1, .nil => .nil
  | _, _, k + 1, .cons n t x => .cons n t (ints_take k x)
theorem sub_t3 {l : Addr} {a b c d : Int} {t u v t' : Tok} {Q : Value → Shared → Prop} (hl : IsT h l [.int a t, .int b u, .int c v]) (h0 : 0 ≤ d) (h3 : d < 3) (q : ∀ x y, Q (.int x y) (upd s h tk)) : SubscriptOn (model prog w) A (.ref l) (.int d t') Q E (upd s h tk) := by
  have : d = 0 ∨ d = 1 ∨ d = 2 := by omega
  rcases this with rfl | rfl | rfl
  · exact sub_t hl (by omega) (by omega) rfl (q _ _)
  · exact sub_t hl (by omega) (by omega) rfl (q _ _)
  · exact sub_t hl (by omega) (by omega) rfl (q _ _)
theorem eq_pairs_nil {a b : Addr} {va : List Value} {ds : List (Int × Int)} {n : Nat} {Q : Value → Shared → Prop} (R : Room n A) (ha : IsL h a va) (xa : Tups PrG ds va h) (hb : IsL h b []) (q : Q (.bool (decide (ds = []))) (upd s h tk)) :
    wpAny (model prog w) A (compareOp .Eq (.ref a) (.ref b)) Q E (upd s h tk) := by
  obtain ⟨o, ho, hc, m, hd⟩ := ha
  obtain ⟨as, r⟩ := readsAll_pairs xa
  obtain ⟨o', ho', hc', m', hd'⟩ := hb
  have h1 : shaped (.list (ds.map pairP)) = true := by
    have h1 := depth_pairs ds
    have h2 : PyData.depth (.list (ds.map pairP)) ≤ 64 := by simp only [PyData.depth]; omega
    show (PyData.canLay0 _ && decide (PyData.depth _ ≤ 64)) = true
    rw [Bool.and_eq_true]
    exact ⟨by simp only [PyData.canLay0]; exact canLay_pairs ds, decide_eq_true h2⟩
  refine eq_dataH_same (s := upd s h tk) (.list ho hc hd r) (.list ho' hc' hd' .nil) h1 (by decide) R.cl64 (by cases ds <;> simp [noMix, noMixAll]) ?_
  have : PySem.Spec.same (.list (ds.map pairP)) (.list []) = decide (ds = []) := by cases ds <;> simp [PySem.Spec.same, PySem.Spec.sameAll]
  rw [this]; exact q
theorem Paired.append {α β : Type} {R : α → β → Prop} {xs xs' : List α} {ys ys' : List β} (x : Paired R xs ys) (y : Paired R xs' ys') : Paired R (xs ++ xs') (ys ++ ys') := by
  induction x with
  | nil => exact y
  | cons a _ ih => exact .cons a ih
theorem Paired.take {α β : Type} {R : α → β → Prop} {xs : List α} {ys : List β} (x : Paired R xs ys) : ∀ k : Nat, Paired R (xs.take k) (ys.take k) := by
  induction x with
  | nil => intro k; rw [List.take_nil, List.take_nil]; exact .nil
  | cons a _ ih => intro k; cases k with | zero => exact .nil | succ k => exact .cons a (ih k)
theorem Paired.drop {α β : Type} {R : α → β → Prop} {xs : List α} {ys : List β} (x : Paired R xs ys) : ∀ k : Nat, Paired R (xs.drop k) (ys.drop k) := by
  induction x with
  | nil => intro k; rw [List.drop_nil, List.drop_nil]; exact .nil
  | cons a x ih => intro k; cases k with | zero => exact .cons a x | succ k => exact ih k
theorem ints_cons {a : Int} {r : List Int} {ws : List Value} (h : IntsAre ws (a :: r)) : ∃ t us, ws = .int a t :: us ∧ IntsAre us r := by
  cases h with
  | cons _ t h => exact ⟨t, _, rfl, h⟩
theorem ints3 {a b c : Int} {ws : List Value} (h : IntsAre ws [a, b, c]) : ∃ t u v, ws = [.int a t, .int b u, .int c v] := by
  obtain ⟨t, us1, rfl, h1⟩ := ints_cons h
  obtain ⟨u, us2, rfl, h2⟩ := ints_cons h1
  obtain ⟨v, us3, rfl, h3⟩ := ints_cons h2
  cases h3
  exact ⟨t, u, v, rfl⟩
theorem pick_up {vs : List Value} {k : Nat} : slicePick vs.toArray none (some (k : Int)) none = (vs.take k).toArray := by simpa using slicePick_upto' vs.toArray k
theorem pick_fr {vs : List Value} {k : Nat} : slicePick vs.toArray (some ((k : Int) + 1)) none none = (vs.drop (k + 1)).toArray := by
  have := slicePick_from' vs.toArray (k + 1)
  simpa using this
end
end PLw
section PPl0
open PySem PySem.W PyProof.Rows PySem.Calls
set_option Elab.async false
set_option linter.unusedVariables false
set_option maxRecDepth 100000
noncomputable def cameD (ps : List Pack) (N : Nat) : List Int := (nums N).filter fun n => (pk ps n).2.2
noncomputable def earlyD (ps : List Pack) (N cut : Nat) : List Int := (cameD ps N).filter fun n => decide (n < (cut : Int))
noncomputable def shiftD (mv : Int) (ds : List (Int × Int)) : List (Int × Int) := ds.map fun p => (p.1, p.2 + mv)
structure FoundOk (f : Found) : Prop where
  len : f.1.length ≤ 9
  asc : f.1.Pairwise fun a b => a.1 < b.1
  bl : f.2.length ≤ 9
structure LawOk (ps : List Pack) (N cut : Nat) (now mv first : Int) (came early : List Int) (f1 f2 fo : Found) : Prop where
  runA : ∃ r, runD ps 0 [(cut, early, (pk ps ((cut : Int) - 1)).1 + 140), (N, came, now + 1000)] rs0 = some (r, [f1, f2])
  runO : ∃ r, runD ps 0 [(N, came, now + 1000)] rs0 = some (r, [fo])
  runL : ∃ r, runD ps mv [(N, came, now + 1000)] rs0 = some (r, [(shiftD mv fo.1, fo.2)])
  k1 : FoundOk f1
  k2 : FoundOk f2
  ko : FoundOk fo
  j1 : just f1.2 first (widest early first f1.1) f1.1 = true
  j2 : just f2.2 first (widest came first f2.1) f2.1 = true
  jo : just fo.2 first (widest came first fo.1) fo.1 = true
  w1 : widest early first f1.1 ≤ widest came first fo.1
  w2 : widest came first f2.1 ≤ widest came first fo.1
  jl : just fo.2 (first + mv) (widest came first fo.1) (shiftD mv fo.1) = true
  wr : ∀ k p, fo.1[k]? = some p → widest (came ++ [p.1]) first (fo.1.take k ++ fo.1.drop (k + 1)) ≤ widest came first fo.1
  jr : ∀ k p, fo.1[k]? = some p → just (fo.2 ++ [p.1]) first (widest (came ++ [p.1]) first (fo.1.take k ++ fo.1.drop (k + 1))) (fo.1.take k ++ fo.1.drop (k + 1)) = true
end PPl0
section PPl1
open PySem PySem.W PyProof.Rows PySem.Calls
set_option Elab.async false
set_option linter.unusedVariables false
set_option maxRecDepth 100000
noncomputable def Desc (ds : List (Int × Int)) : Prop := ds.Pairwise (fun a b => b.2 + 1 < a.1) ∧ ∀ p ∈ ds, p.1 ≤ p.2
theorem hasN_iff {ds : List (Int × Int)} {k : Int} : hasN ds k = true ↔ ∃ p ∈ ds, p.1 ≤ k ∧ k ≤ p.2 := by
  simp only [hasN, List.any_eq_true, Bool.and_eq_true, decide_eq_true_eq]
theorem hasN_app {a b : List (Int × Int)} {k : Int} : hasN (a ++ b) k = true ↔ hasN a k = true ∨ hasN b k = true := by
  simp only [hasN_iff, List.mem_append]
  constructor
  · rintro ⟨p, h | h, r⟩; exact .inl ⟨p, h, r⟩; exact .inr ⟨p, h, r⟩
  · rintro (⟨p, h, r⟩ | ⟨p, h, r⟩); exact ⟨p, .inl h, r⟩; exact ⟨p, .inr h, r⟩
theorem hasN_one {p : Int × Int} {k : Int} : hasN [p] k = true ↔ p.1 ≤ k ∧ k ≤ p.2 := by simp [hasN_iff]
theorem hasN_cons {p : Int × Int} {r : List (Int × Int)} {k : Int} : hasN (p :: r) k = true ↔ (p.1 ≤ k ∧ k ≤ p.2) ∨ hasN r k = true := by
  rw [← List.singleton_append, hasN_app, hasN_one]
theorem desc_cons {p : Int × Int} {r : List (Int × Int)} : Desc (p :: r) ↔ (∀ b ∈ r, b.2 + 1 < p.1) ∧ p.1 ≤ p.2 ∧ Desc r := by
  unfold Desc
  simp only [List.pairwise_cons, List.forall_mem_cons]
  constructor
  · rintro ⟨⟨a, b⟩, c, d⟩; exact ⟨a, c, b, d⟩
  · rintro ⟨a, c, b, d⟩; exact ⟨⟨a, b⟩, c, d⟩
theorem desc_app {a b : List (Int × Int)} : Desc (a ++ b) ↔ Desc a ∧ Desc b ∧ ∀ x ∈ a, ∀ y ∈ b, y.2 + 1 < x.1 := by
  unfold Desc
  simp only [List.pairwise_append, List.forall_mem_append]
  constructor
  · rintro ⟨⟨a, b, c⟩, d, e⟩; exact ⟨⟨a, d⟩, ⟨b, e⟩, c⟩
  · rintro ⟨⟨a, d⟩, ⟨b, e⟩, c⟩; exact ⟨⟨a, b, c⟩, d, e⟩
theorem addGo_in : ∀ (ds f : List (Int × Int)) (lo hi : Int), lo ≤ hi → Desc ds → (∀ p ∈ ds, p.2 + 1 < lo) → addGo ds f true lo hi = f ++ ds
  | [], f, lo, hi, _, _, _ => by simp [addGo, addF]
  | p :: r, f, lo, hi, h, hd, hl => by
    have h1 := hl p (.head _)
    have h2 := (desc_cons.mp hd).2.1
    rw [addGo_cons, if_neg (by omega), if_pos (by omega)]
    simp only [addF, if_true]
    rw [addGo_in r _ lo hi h (desc_cons.mp hd).2.2 fun q hq => hl q (.tail _ hq)]
    simp
theorem addGo_out : ∀ (ds f : List (Int × Int)) (lo hi : Int), lo ≤ hi → Desc (f ++ ds) → (∀ p ∈ f, hi + 1 < p.1) →
    Desc (addGo ds f false lo hi) ∧ ∀ k, hasN (addGo ds f false lo hi) k = true ↔ hasN (f ++ ds) k = true ∨ (lo ≤ k ∧ k ≤ hi)
  | [], f, lo, hi, h, hd, hf => by
    simp only [addGo, addF, Bool.false_eq_true, if_false, List.append_nil] at hd ⊢
    refine ⟨desc_app.mpr ⟨hd, ⟨by simp, by simpa using h⟩, fun x hx y hy => ?_⟩, fun k => by rw [hasN_app, hasN_one]⟩
    rw [List.mem_singleton.mp hy]; exact hf x hx
  | p :: r, f, lo, hi, h, hd, hf => by
    obtain ⟨d1, d2, d3⟩ := desc_app.mp hd
    obtain ⟨c1, c2, c3⟩ := desc_cons.mp d2
    rw [addGo_cons]
    split
    · rename_i h1
      have := addGo_out r (f ++ [p]) lo hi h (by simpa using hd) (fun q hq => by
        rcases List.mem_append.mp hq with hq | hq
        · exact hf q hq
        · rw [List.mem_singleton.mp hq]; omega)
      simpa using this
    · rename_i h1
      split
      · rename_i h2
        simp only [addF, Bool.false_eq_true, if_false]
        rw [addGo_in r _ lo hi h c3 fun q hq => by have := c1 q hq; omega]
        have e : f ++ [(lo, hi)] ++ [p] ++ r = f ++ ((lo, hi) :: p :: r) := by simp
        rw [e]
        refine ⟨desc_app.mpr ⟨d1, desc_cons.mpr ⟨fun b hb => ?_, h, d2⟩, fun x hx y hy => ?_⟩, fun k => ?_⟩
        · show b.2 + 1 < lo
          rcases List.mem_cons.mp hb with rfl | hb
          · omega
          · have := c1 b hb; omega
        · rcases List.mem_cons.mp hy with rfl | hy
          · exact hf x hx
          · exact d3 x hx y hy
        · rw [hasN_app, hasN_cons, hasN_app]
          constructor
          · rintro (a | b | c); exact .inl (.inl a); exact .inr b; exact .inl (.inr c)
          · rintro ((a | c) | b); exact .inl a; exact .inr (.inr c); exact .inr (.inl b)
      · rename_i h2
        have := addGo_out r f (min lo p.1) (max hi p.2) (by omega) (desc_app.mpr ⟨d1, c3, fun x hx y hy => d3 x hx y (.tail _ hy)⟩) (fun q hq => by
          have a := hf q hq
          have b := d3 q hq p (.head _)
          omega)
        refine ⟨this.1, fun k => ?_⟩
        rw [this.2 k, hasN_app, hasN_app, hasN_cons]
        constructor
        · rintro ((a | b) | c)
          · exact .inl (.inl a)
          · exact .inl (.inr (.inr b))
          · by_cases hk : lo ≤ k ∧ k ≤ hi
            · exact .inr hk
            · exact .inl (.inr (.inl (by omega)))
        · rintro ((a | b | c) | d)
          · exact .inl (.inl a)
          · exact .inr (by omega)
          · exact .inl (.inr c)
          · exact .inr (by omega)
theorem addAll_out (ls : Int) : ∀ (ns : List Int) (ads : List (Int × Int)), Desc ads →
    Desc (addAll ls ads (ns.map fun n => (n, n))) ∧ ∀ k, hasN (addAll ls ads (ns.map fun n => (n, n))) k = true ↔ hasN ads k = true ∨ (ls ≤ k ∧ k ∈ ns)
  | [], ads, h => ⟨h, fun k => by simp [addAll]⟩
  | n :: r, ads, h => by
    show Desc (addAll ls (if ls ≤ n then addGo ads [] false n n else ads) (r.map fun n => (n, n))) ∧ ∀ k, hasN (addAll ls (if ls ≤ n then addGo ads [] false n n else ads) (r.map fun n => (n, n))) k = true ↔ _
    split
    · rename_i hl
      obtain ⟨a, b⟩ := addGo_out ads [] n n (Int.le_refl _) (by simpa using h) (by simp)
      obtain ⟨c, d⟩ := addAll_out ls r _ a
      refine ⟨c, fun k => ?_⟩
      rw [d, b, List.nil_append, List.mem_cons]
      constructor
      · rintro ((x | y) | z)
        · exact .inl x
        · exact .inr ⟨by omega, .inl (by omega)⟩
        · exact .inr ⟨z.1, .inr z.2⟩
      · rintro (x | ⟨y, rfl | z⟩)
        · exact .inl (.inl x)
        · exact .inl (.inr ⟨Int.le_refl _, Int.le_refl _⟩)
        · exact .inr ⟨y, z⟩
    · rename_i hl
      obtain ⟨c, d⟩ := addAll_out ls r _ h
      refine ⟨c, fun k => ?_⟩
      rw [d, List.mem_cons]
      constructor
      · rintro (x | z)
        · exact .inl x
        · exact .inr ⟨z.1, .inr z.2⟩
      · rintro (x | ⟨y, rfl | z⟩)
        · exact .inl x
        · exact absurd y hl
        · exact .inr ⟨y, z⟩
theorem prune_out {ds : List (Int × Int)} (ls : Int) (h : Desc ds) : Desc (pruneD ds ls) ∧ ∀ k, hasN (pruneD ds ls) k = true ↔ ls ≤ k ∧ hasN ds k = true := by
  induction ds with
  | nil => exact ⟨⟨.nil, by simp [pruneD]⟩, fun k => by simp [pruneD, hasN]⟩
  | cons p r ih =>
    obtain ⟨c1, c2, c3⟩ := desc_cons.mp h
    obtain ⟨i1, i2⟩ := ih c3
    have e : pruneD (p :: r) ls = if ls ≤ p.2 then (max p.1 ls, p.2) :: pruneD r ls else pruneD r ls := by
      unfold pruneD; rw [List.filter_cons]; split <;> simp_all
    rw [e]
    split
    · rename_i hl
      refine ⟨desc_cons.mpr ⟨fun b hb => ?_, by show max p.1 ls ≤ p.2; omega, i1⟩, fun k => ?_⟩
      · unfold pruneD at hb
        obtain ⟨q, hq, rfl⟩ := List.mem_map.mp hb
        have := c1 q (List.mem_filter.mp hq).1
        show q.2 + 1 < max p.1 ls; omega
      · rw [hasN_cons, hasN_cons, i2]
        show (max p.1 ls ≤ k ∧ k ≤ p.2) ∨ _ ↔ _
        constructor
        · rintro (⟨a, b⟩ | ⟨a, b⟩)
          · exact ⟨by omega, .inl (by omega)⟩
          · exact ⟨a, .inr b⟩
        · rintro ⟨a, b | b⟩
          · exact .inl (by omega)
          · exact .inr ⟨a, b⟩
    · rename_i hl
      refine ⟨i1, fun k => ?_⟩
      rw [i2, hasN_cons]
      constructor
      · rintro ⟨a, b⟩; exact ⟨a, .inr b⟩
      · rintro ⟨a, b | b⟩
        · omega
        · exact ⟨a, b⟩
end PPl1
section PPl2
open PySem PySem.W PyProof.Rows PySem.Calls
set_option Elab.async false
set_option linter.unusedVariables false
set_option maxRecDepth 100000
noncomputable def Free (ac : List Int) (x y : Int) : Prop := ∀ k ∈ ac, ¬ (x < k ∧ k < y)
noncomputable def Asc2 (ds : List (Int × Int)) : Prop := ds.Pairwise fun a b => a.1 < b.1 ∧ a.2 < b.2
noncomputable def Cand (ac : List Int) (first : Int) (a b : Int × Int) : Prop := a.1 < b.1 ∧ first < a.2 ∧ Free ac a.1 b.1
theorem wIn_yes {ac : List Int} {first f : Int} {a b : Int × Int} (h : Cand ac first a b) : wIn ac first a f b = max f (b.2 - a.2) := by
  unfold wIn
  rw [if_pos h.1, if_pos h.2.1, if_pos]
  rw [List.filter_eq_nil_iff]
  intro k hk hh
  simp only [Bool.and_eq_true, decide_eq_true_eq] at hh
  exact h.2.2 k hk hh
theorem wIn_no {ac : List Int} {first f : Int} {a b : Int × Int} (h : ¬ Cand ac first a b) : wIn ac first a f b = f := by
  unfold wIn
  split
  · split
    · split
      · rename_i h1 h2 h3
        refine absurd ⟨h1, h2, fun k hk hh => ?_⟩ h
        rw [List.filter_eq_nil_iff] at h3
        exact h3 k hk (by simp [hh.1, hh.2])
      · rfl
    · rfl
  · rfl
theorem inner_le (ac : List Int) (first : Int) (a : Int × Int) : ∀ (l : List (Int × Int)) (f : Int), f ≤ l.foldl (wIn ac first a) f ∧ ∀ b ∈ l, Cand ac first a b → b.2 - a.2 ≤ l.foldl (wIn ac first a) f
  | [], f => ⟨Int.le_refl _, by simp⟩
  | b :: r, f => by
    obtain ⟨h1, h2⟩ := inner_le ac first a r (wIn ac first a f b)
    rw [List.foldl_cons]
    by_cases hc : Cand ac first a b
    · rw [wIn_yes hc] at h1 h2 ⊢
      refine ⟨by omega, fun c hm hcc => ?_⟩
      rcases List.mem_cons.mp hm with rfl | hm
      · omega
      · exact h2 c hm hcc
    · rw [wIn_no hc] at h1 h2 ⊢
      refine ⟨h1, fun c hm hcc => ?_⟩
      rcases List.mem_cons.mp hm with rfl | hm
      · exact absurd hcc hc
      · exact h2 c hm hcc
theorem inner_at (ac : List Int) (first : Int) (a : Int × Int) : ∀ (l : List (Int × Int)) (f : Int), l.foldl (wIn ac first a) f = f ∨ ∃ b ∈ l, Cand ac first a b ∧ l.foldl (wIn ac first a) f = b.2 - a.2
  | [], f => .inl rfl
  | b :: r, f => by
    rw [List.foldl_cons]
    by_cases hc : Cand ac first a b
    · rw [wIn_yes hc]
      rcases inner_at ac first a r (max f (b.2 - a.2)) with h | ⟨c, hm, hcc, h⟩
      · rw [h]
        by_cases hle : b.2 - a.2 ≤ f
        · exact .inl (by omega)
        · exact .inr ⟨b, .head _, hc, by omega⟩
      · exact .inr ⟨c, .tail _ hm, hcc, h⟩
    · rw [wIn_no hc]
      rcases inner_at ac first a r f with h | ⟨c, hm, hcc, h⟩
      · exact .inl h
      · exact .inr ⟨c, .tail _ hm, hcc, h⟩
theorem outer_le (ac : List Int) (first : Int) (ds : List (Int × Int)) : ∀ (l : List (Int × Int)) (f : Int), f ≤ l.foldl (fun f one => ds.foldl (wIn ac first one) f) f ∧ ∀ a ∈ l, ∀ b ∈ ds, Cand ac first a b → b.2 - a.2 ≤ l.foldl (fun f one => ds.foldl (wIn ac first one) f) f
  | [], f => ⟨Int.le_refl _, by simp⟩
  | a :: r, f => by
    obtain ⟨i1, i2⟩ := inner_le ac first a ds f
    obtain ⟨h1, h2⟩ := outer_le ac first ds r (ds.foldl (wIn ac first a) f)
    rw [List.foldl_cons]
    refine ⟨by omega, fun x hx b hb hc => ?_⟩
    rcases List.mem_cons.mp hx with rfl | hx
    · have := i2 b hb hc; omega
    · exact h2 x hx b hb hc
theorem outer_at (ac : List Int) (first : Int) (ds : List (Int × Int)) : ∀ (l : List (Int × Int)) (f : Int), l.foldl (fun f one => ds.foldl (wIn ac first one) f) f = f ∨ ∃ a ∈ l, ∃ b ∈ ds, Cand ac first a b ∧ l.foldl (fun f one => ds.foldl (wIn ac first one) f) f = b.2 - a.2
  | [], f => .inl rfl
  | a :: r, f => by
    rw [List.foldl_cons]
    rcases outer_at ac first ds r (ds.foldl (wIn ac first a) f) with h | ⟨x, hx, b, hb, hc, h⟩
    · rw [h]
      rcases inner_at ac first a ds f with h' | ⟨b, hb, hc, h'⟩
      · exact .inl h'
      · exact .inr ⟨a, .head _, b, hb, hc, h'⟩
    · exact .inr ⟨x, .tail _ hx, b, hb, hc, h⟩
theorem widest_nonneg (ac : List Int) (first : Int) (ds : List (Int × Int)) : 0 ≤ widest ac first ds := (outer_le ac first ds ds 0).1
theorem widest_ge {ac : List Int} {first : Int} {ds : List (Int × Int)} {a b : Int × Int} (ha : a ∈ ds) (hb : b ∈ ds) (hc : Cand ac first a b) : b.2 - a.2 ≤ widest ac first ds := (outer_le ac first ds ds 0).2 a ha b hb hc
theorem widest_at (ac : List Int) (first : Int) (ds : List (Int × Int)) : widest ac first ds = 0 ∨ ∃ a ∈ ds, ∃ b ∈ ds, Cand ac first a b ∧ widest ac first ds = b.2 - a.2 := outer_at ac first ds ds 0
theorem widest_mono {ac ac' : List Int} {first : Int} {ds ds' : List (Int × Int)} (h : ∀ a ∈ ds, ∀ b ∈ ds, Cand ac first a b → a ∈ ds' ∧ b ∈ ds' ∧ Cand ac' first a b) : widest ac first ds ≤ widest ac' first ds' := by
  rcases widest_at ac first ds with e | ⟨a, ha, b, hb, hc, e⟩
  · rw [e]; exact widest_nonneg _ _ _
  · obtain ⟨h1, h2, h3⟩ := h a ha b hb hc
    rw [e]; exact widest_ge h1 h2 h3
noncomputable def StOk (S : Int × Int → Prop) (ac : List Int) (first : Int) : Option (Int × Int) → Prop
  | none => True
  | some (b, l) => ∃ a, S a ∧ a.2 = b ∧ first < b ∧ a.1 ≤ l ∧ ∀ k ∈ ac, ¬ (a.1 < k ∧ k ≤ l)
theorem any_iff {ac : List Int} {l n : Int} : (ac.any fun k => decide (l < k) && decide (k < n)) = true ↔ ∃ k ∈ ac, l < k ∧ k < n := by
  simp only [List.any_eq_true, Bool.and_eq_true, decide_eq_true_eq]
theorem persB_some (ac : List Int) (n t b l : Int) : persB ac n t (some (b, l)) = if (ac.any fun k => decide (l < k) && decide (k < n)) = true then t else b := rfl
theorem pers_sound {S : Int × Int → Prop} {ac : List Int} {first span : Int} : ∀ (ds : List (Int × Int)) (st : Option (Int × Int)), (∀ p ∈ ds, S p) → (∀ p ∈ ds, p.1 ∉ ac) → StOk S ac first st → (∀ b l, st = some (b, l) → ∀ p ∈ ds, l < p.1) → ds.Pairwise (fun a b => a.1 < b.1) →
    persGo ac first span ds st = true → ∃ a b, S a ∧ S b ∧ first < a.2 ∧ a.1 ≤ b.1 ∧ Free ac a.1 b.1 ∧ span < b.2 - a.2
  | [], st, _, _, _, _, _, h => by simp [persGo] at h
  | p :: r, st, hS, hn, hst, hl, ha, h => by
    obtain ⟨ha1, ha2⟩ := List.pairwise_cons.mp ha
    rw [show (p :: r) = ((p.1, p.2) :: r) from rfl, persGo_cons] at h
    split at h
    · exact pers_sound r st (fun q hq => hS q (.tail _ hq)) (fun q hq => hn q (.tail _ hq)) hst (fun b l e q hq => hl b l e q (.tail _ hq)) ha2 h
    · rename_i hf
      have key : ∃ a, S a ∧ a.2 = persB ac p.1 p.2 st ∧ first < a.2 ∧ a.1 ≤ p.1 ∧ ∀ k ∈ ac, ¬ (a.1 < k ∧ k ≤ p.1) := by
        have self : ∃ a, S a ∧ a.2 = p.2 ∧ first < a.2 ∧ a.1 ≤ p.1 ∧ ∀ k ∈ ac, ¬ (a.1 < k ∧ k ≤ p.1) := ⟨p, hS p (.head _), rfl, by omega, Int.le_refl _, fun k _ hk => by omega⟩
        match st, hst, hl with
        | none, _, _ => exact self
        | some (b, l), ⟨a, sa, ea, fa, la, na⟩, hl =>
          rw [persB_some]
          split
          · exact self
          · rename_i hany
            have hlp := hl b l rfl p (.head _)
            refine ⟨a, sa, ea, by omega, by omega, fun k hk hkk => ?_⟩
            by_cases h1 : k ≤ l
            · exact na k hk ⟨hkk.1, h1⟩
            · by_cases h2 : k = p.1
              · exact hn p (.head _) (h2 ▸ hk)
              · exact hany (any_iff.mpr ⟨k, hk, by omega, by omega⟩)
      obtain ⟨a, sa, ea, fa, la, na⟩ := key
      split at h
      · rename_i hsp
        exact ⟨a, p, sa, hS p (.head _), fa, la, fun k hk hkk => na k hk ⟨hkk.1, by omega⟩, by omega⟩
      · refine pers_sound r (some (persB ac p.1 p.2 st, p.1)) (fun q hq => hS q (.tail _ hq)) (fun q hq => hn q (.tail _ hq)) (show StOk S ac first (some (persB ac p.1 p.2 st, p.1)) from ⟨a, sa, ea, by omega, la, na⟩) (fun b l e q hq => ?_) ha2 h
        cases e
        exact ha1 q hq
theorem pers_run {ac : List Int} {first span x T : Int} {b : Int × Int} (hsp : span < b.2 - T) (hfr : Free ac x b.1) : ∀ (ds : List (Int × Int)) (bg l : Int), bg ≤ T → x ≤ l → (∀ p ∈ ds, l < p.1 ∧ first < p.2) → ds.Pairwise (fun a b => a.1 < b.1) → b ∈ ds → persGo ac first span ds (some (bg, l)) = true
  | [], _, _, _, _, _, _, h => nomatch h
  | p :: r, bg, l, hb, hx, hl, ha, hm => by
    obtain ⟨ha1, ha2⟩ := List.pairwise_cons.mp ha
    obtain ⟨hl1, hl2⟩ := hl p (.head _)
    have hpb : p.1 ≤ b.1 := by
      rcases List.mem_cons.mp hm with rfl | hm
      · exact Int.le_refl _
      · have := ha1 b hm; omega
    have hB : persB ac p.1 p.2 (some (bg, l)) = bg := by
      rw [persB_some, if_neg]
      intro h
      obtain ⟨k, hk, h1, h2⟩ := any_iff.mp h
      exact hfr k hk ⟨by omega, by omega⟩
    rw [show (p :: r) = ((p.1, p.2) :: r) from rfl, persGo_cons, if_neg (by omega), hB]
    rcases List.mem_cons.mp hm with rfl | hm
    · rw [if_pos (by omega)]
    · split
      · rfl
      · exact pers_run hsp hfr r bg p.1 hb (by omega) (fun q hq => ⟨ha1 q hq, (hl q (.tail _ hq)).2⟩) ha2 hm
theorem pers_full {ac : List Int} {first span : Int} {a b : Int × Int} (hsp : span < b.2 - a.2) (hc : Cand ac first a b) : ∀ (ds : List (Int × Int)) (st : Option (Int × Int)), (∀ bg l, st = some (bg, l) → ∀ p ∈ ds, bg ≤ p.2) → Asc2 ds → a ∈ ds → b ∈ ds → persGo ac first span ds st = true
  | [], _, _, _, h, _ => nomatch h
  | p :: r, st, hst, ha, ma, mb => by
    obtain ⟨ha1, ha2⟩ := List.pairwise_cons.mp ha
    rw [show (p :: r) = ((p.1, p.2) :: r) from rfl, persGo_cons]
    have hB : persB ac p.1 p.2 st ≤ p.2 := by
      match st, hst with
      | none, _ => exact Int.le_refl _
      | some (bg, l), hst =>
        have := hst bg l rfl p (.head _)
        rw [persB_some]; split <;> omega
    rcases List.mem_cons.mp ma with e | ma
    · subst e
      have mb : b ∈ r := by
        rcases List.mem_cons.mp mb with e | mb
        · subst e; have := hc.1; omega
        · exact mb
      rw [if_neg (by have := hc.2.1; omega)]
      split
      · rfl
      · exact pers_run hsp hc.2.2 r _ _ hB (Int.le_refl _) (fun q hq => ⟨(ha1 q hq).1, by have := (ha1 q hq).2; have := hc.2.1; omega⟩) (ha2.imp fun h => h.1) mb
    · have mb : b ∈ r := by
        rcases List.mem_cons.mp mb with e | mb'
        · have := (ha1 a ma).1; have := hc.1; rw [e] at this; omega
        · exact mb'
      split
      · exact pers_full hsp hc r st (fun bg l e q hq => hst bg l e q (.tail _ hq)) ha2 ma mb
      · split
        · rfl
        · refine pers_full hsp hc r _ (fun bg l e q hq => ?_) ha2 ma mb
          cases e
          have := (ha1 q hq).2; omega
theorem asc2_eq {ds : List (Int × Int)} (h : Asc2 ds) {a b : Int × Int} (ha : a ∈ ds) (hb : b ∈ ds) (e : a.1 = b.1) : a = b := by
  induction ds with
  | nil => cases ha
  | cons p r ih =>
    obtain ⟨h1, h2⟩ := List.pairwise_cons.mp h
    rcases List.mem_cons.mp ha with ea | ha' <;> rcases List.mem_cons.mp hb with eb | hb'
    · rw [ea, eb]
    · have := (h1 b hb').1; rw [ea] at e; omega
    · have := (h1 a ha').1; rw [eb] at e; omega
    · exact ih h2 ha' hb'
theorem just_ok {ac ac' : List Int} {ds : List (Int × Int)} {first : Int} (ha : Asc2 ds) (hn : ∀ p ∈ ds, p.1 ∉ ac') (hc : ∀ p ∈ ds, ∀ q ∈ ds, Free ac p.1 q.1 ↔ Free ac' p.1 q.1) : just ac' first (widest ac first ds) ds = true := by
  unfold just
  rw [Bool.and_eq_true]
  constructor
  · rw [Bool.not_eq_true']
    rw [Bool.eq_false_iff]
    intro h
    obtain ⟨a, b, ma, mb, fa, le, fr, sp⟩ := pers_sound (S := (· ∈ ds)) ds none (fun _ h => h) hn trivial (fun _ _ e => nomatch e) (ha.imp fun h => h.1) h
    have h0 := widest_nonneg ac first ds
    by_cases hlt : a.1 < b.1
    · have := widest_ge ma mb (ac := ac) (first := first) ⟨hlt, fa, (hc a ma b mb).mpr fr⟩; omega
    · have := asc2_eq ha ma mb (by omega); subst this; omega
  · rcases widest_at ac first ds with e | ⟨a, ma, b, mb, cd, e⟩
    · rw [e]; rfl
    · rw [Bool.or_eq_true]
      refine .inr (pers_full (a := a) (b := b) (by omega) ⟨cd.1, cd.2.1, (hc a ma b mb).mp cd.2.2⟩ ds none (fun _ _ e => nomatch e) ha ma mb)
theorem pers_shift (ac : List Int) (first span mv : Int) : ∀ (ds : List (Int × Int)) (st : Option (Int × Int)), persGo ac (first + mv) span (shiftD mv ds) (st.map fun p => (p.1 + mv, p.2)) = persGo ac first span ds st
  | [], _ => rfl
  | p :: r, st => by
    show persGo ac (first + mv) span ((p.1, p.2 + mv) :: shiftD mv r) _ = persGo ac first span ((p.1, p.2) :: r) st
    rw [persGo_cons, persGo_cons]
    have hB : persB ac p.1 (p.2 + mv) (st.map fun p => (p.1 + mv, p.2)) = persB ac p.1 p.2 st + mv := by
      match st with
      | none => rfl
      | some (b, l) =>
        show (if _ then _ else _) = (if _ then _ else _) + mv
        split <;> rfl
    rw [hB]
    have e1 : (p.2 + mv ≤ first + mv) ↔ p.2 ≤ first := by omega
    have e2 : (span < p.2 + mv - (persB ac p.1 p.2 st + mv)) ↔ span < p.2 - persB ac p.1 p.2 st := by omega
    simp only [e1, e2]
    split
    · exact pers_shift ac first span mv r st
    · split
      · rfl
      · exact pers_shift ac first span mv r (some (persB ac p.1 p.2 st, p.1))
theorem just_shift (ac : List Int) (first wd mv : Int) (ds : List (Int × Int)) : just ac (first + mv) wd (shiftD mv ds) = just ac first wd ds := by
  unfold just
  rw [show (none : Option (Int × Int)) = (none : Option (Int × Int)).map fun p => (p.1 + mv, p.2) from rfl, pers_shift, pers_shift]; rfl
end PPl2
section PPl3
open PySem PySem.W PyProof.Rows PySem.Calls
set_option Elab.async false
set_option linter.unusedVariables false
set_option maxRecDepth 100000
noncomputable def row (ps : List Pack) (mv n : Int) : Int × Int × Bool := (n, (pk ps n).1 + mv, (pk ps n).2.1)
noncomputable def rowS (ps : List Pack) (mv : Int) (S : List Int) : List (Int × Int × Bool) := S.map (row ps mv)
noncomputable def prs (ps : List Pack) (mv : Int) (D : List Int) : List (Int × Int) := (D.filter fun n => (pk ps n).2.1).map fun n => (n, (pk ps n).1 + mv)
noncomputable def leastS (nn : Nat) : List Int → Int
  | [] => nn
  | n :: _ => n
structure Inv (ps : List Pack) (mv : Int) (r : RS) (S : List Int) : Prop where
  sent : r.sent = rowS ps mv S
  out : r.out = S
  asc : S.Pairwise (· < ·)
  rng : ∀ n ∈ S, 0 ≤ n ∧ n < (r.nn : Int)
  len : S.length ≤ r.nn
theorem rowS_num (ps : List Pack) (mv : Int) (S : List Int) : (rowS ps mv S).map (·.1) = S := by
  unfold rowS; rw [List.map_map]; exact List.map_id'' (fun _ => rfl) S
theorem minus_row (ps : List Pack) (mv : Int) (S ns : List Int) : minusP (rowS ps mv S) ns = rowS ps mv (S.filter fun n => !ns.contains n) := by
  unfold minusP rowS
  rw [List.filter_map]; rfl
theorem mem_rng {told : List Int} {k : Int} : hasN (rngD told) k = true ↔ k ∈ told := by
  rw [hasN_iff]
  unfold rngD
  constructor
  · rintro ⟨p, hp, h1, h2⟩
    obtain ⟨n, hn, rfl⟩ := List.mem_map.mp hp
    have : n = k := by show n = k; have h1 : n ≤ k := h1; have h2 : k ≤ n := h2; omega
    subst this; exact List.mem_reverse.mp hn
  · intro h
    exact ⟨(k, k), List.mem_map.mpr ⟨k, List.mem_reverse.mpr h, rfl⟩, Int.le_refl _, Int.le_refl _⟩
theorem least_row (ps : List Pack) (mv : Int) (nn : Nat) (S : List Int) : leastD nn (rowS ps mv S) = leastS nn S := by cases S <;> rfl
theorem leastS_le {nn : Nat} {S : List Int} (ha : S.Pairwise (· < ·)) {n : Int} (h : n ∈ S) : leastS nn S ≤ n := by
  cases S with
  | nil => cases h
  | cons p r =>
    rcases List.mem_cons.mp h with rfl | h
    · exact Int.le_refl _
    · have := (List.pairwise_cons.mp ha).1 n h; show p ≤ n; omega
theorem lost_due {ps : List Pack} {mv now L : Int} {S : List Int} (h : L ∉ S) : lostN (rowS ps mv S) L (now + mv) 150 = dueD ps now L S := by
  unfold lostN rowS dueD
  rw [List.filter_map, List.map_map]
  have e : S.filter (lostP L (now + mv) 150 ∘ row ps mv) = S.filter fun n => decide (n < L) && (decide (n + 3 ≤ L) || decide ((pk ps n).1 + 150 ≤ now)) := by
    refine List.filter_congr fun n hn => ?_
    have hne : n ≠ L := fun e => h (e ▸ hn)
    show (decide (n ≤ L) && (decide (L ≥ n + 3) || decide ((pk ps n).1 + mv + 150 ≤ now + mv))) = _
    have e1 : decide (n ≤ L) = decide (n < L) := decide_eq_decide.mpr (by omega)
    have e2 : decide ((pk ps n).1 + mv + 150 ≤ now + mv) = decide ((pk ps n).1 + 150 ≤ now) := decide_eq_decide.mpr (by omega)
    rw [e1, e2]
  rw [e]
  exact List.map_id'' (fun _ => rfl) _
theorem row_of {ps : List Pack} {mv : Int} {S : List Int} (ha : S.Pairwise (· < ·)) {n : Int} (h : n ∈ S) : rowOf (rowS ps mv S) n = row ps mv n := by
  obtain ⟨i, hi, e⟩ := List.mem_iff_getElem.mp h
  have h' : (rowS ps mv S)[i]? = some (row ps mv n) := by
    unfold rowS; rw [List.getElem?_map, List.getElem?_eq_getElem hi, e]; rfl
  have := rowOf_of (by rw [rowS_num]; exact ha) h'
  exact this
theorem pairs_row {ps : List Pack} {mv : Int} {S D : List Int} (ha : S.Pairwise (· < ·)) (h : ∀ n ∈ D, n ∈ S) : pairsD (rowS ps mv S) D = prs ps mv D := by
  unfold pairsD prs
  have e1 : D.filter (fun n => (rowOf (rowS ps mv S) n).2.2) = D.filter fun n => (pk ps n).2.1 := List.filter_congr fun n hn => by rw [row_of ha (h n hn)]; rfl
  rw [e1]
  refine List.map_congr_left fun n hn => ?_
  rw [row_of ha (h n (List.mem_filter.mp hn).1)]; rfl
theorem mem_nums {m : Nat} {k : Int} : k ∈ nums m ↔ 0 ≤ k ∧ k < m := by
  unfold nums
  rw [List.mem_map]
  constructor
  · rintro ⟨n, hn, rfl⟩
    have := List.mem_range.mp hn
    show (0 : Int) ≤ (n : Int) ∧ (n : Int) < m; omega
  · rintro ⟨h1, h2⟩
    exact ⟨k.toNat, List.mem_range.mpr (by omega), by show ((k.toNat : Nat) : Int) = k; omega⟩
theorem nums_asc (m : Nat) : (nums m).Pairwise (· < ·) := by
  unfold nums
  refine List.pairwise_map.mpr (List.Pairwise.imp ?_ List.pairwise_lt_range)
  intro a b h; show (a : Int) < b; omega
theorem send_inv {ps : List Pack} {mv : Int} {r : RS} {S : List Int} (h : Inv ps mv r S) : ∀ k, ∃ S', Inv ps mv (sendN ps mv k r) S' ∧ (∀ n, n ∈ S' ↔ n ∈ S ∨ ((r.nn : Int) ≤ n ∧ n < (r.nn : Int) + k)) ∧ (sendN ps mv k r).nn = r.nn + k ∧ (sendN ps mv k r).lg = r.lg ∧ (sendN ps mv k r).ads = r.ads
  | 0 => ⟨S, h, fun n => ⟨.inl, fun h => h.elim id fun h => by omega⟩, rfl, rfl, rfl⟩
  | k + 1 => by
    obtain ⟨S', i, m, e1, e2, e3⟩ := send_inv h k
    refine ⟨S' ++ [((sendN ps mv k r).nn : Int)], ⟨?_, ?_, ?_, ?_, ?_⟩, fun n => ?_, ?_, e2, e3⟩
    · show (sendN ps mv k r).sent ++ [_] = _
      rw [i.sent]; unfold rowS; rw [List.map_append]; rfl
    · show (sendN ps mv k r).out ++ [_] = _
      rw [i.out]
    · refine List.pairwise_append.mpr ⟨i.asc, List.pairwise_singleton _ _, fun a ha b hb => ?_⟩
      rw [List.mem_singleton.mp hb]; exact (i.rng a ha).2
    · intro n hn
      show 0 ≤ n ∧ n < (((sendN ps mv k r).nn + 1 : Nat) : Int)
      rcases List.mem_append.mp hn with hn | hn
      · have := i.rng n hn; omega
      · rw [List.mem_singleton.mp hn]; omega
    · show (S' ++ [_]).length ≤ (sendN ps mv k r).nn + 1
      have := i.len; simp; omega
    · rw [List.mem_append, m, List.mem_singleton, e1]
      push_cast
      constructor
      · rintro ((a | b) | c)
        · exact .inl a
        · exact .inr (by omega)
        · exact .inr (by omega)
      · rintro (a | b)
        · exact .inl (.inl a)
        · by_cases hk : n < (r.nn : Int) + k
          · exact .inl (.inr ⟨b.1, hk⟩)
          · exact .inr (by omega)
    · show (sendN ps mv k r).nn + 1 = _
      omega
structure FSpec (ps : List Pack) (mv : Int) (T : List Int) (N : Nat) (S D : List Int) (f : Found) : Prop where
  pr : f.1 = prs ps mv D
  asc : D.Pairwise (· < ·)
  sub : ∀ n ∈ D, n ∈ S ∧ n ∉ T
  rng : ∀ n ∈ D, 0 ≤ n ∧ n < (N : Int)
  dl : D.length ≤ N
  bl : f.2.length ≤ N
  nb : ∀ n ∈ D, n ∉ f.2
  bt : ∀ n ∈ D, ∀ m ∈ D, ∀ k, n < k → k < m → (k ∈ f.2 ↔ k ∈ T)
noncomputable def keepS (S told : List Int) : List Int := S.filter fun n => !told.contains n
theorem mem_keep {S told : List Int} {n : Int} : n ∈ keepS S told ↔ n ∈ S ∧ n ∉ told := by simp [keepS]
noncomputable def adsS (nn : Nat) (ads : List (Int × Int)) (S told : List Int) : List (Int × Int) := pruneD (addAll (leastS nn (keepS S told)) ads (rngD told)) (leastS nn (keepS S told))
noncomputable def foundS (ps : List Pack) (mv : Int) (nn many : Nat) (ads : List (Int × Int)) (S told : List Int) (now : Int) : Found := (prs ps mv (dueD ps now (lastD told) (keepS S told)), (nums many).filter (hasN (adsS nn ads S told)))
theorem told_eq {ps : List Pack} {mv now : Int} {r : RS} {S told : List Int} {many : Nat} (h : Inv ps mv r S) (hL : lastD told ∈ told) (hg : lgMax r.lg (lastD told) = lastD told) :
    toldD ps mv many told now r = some (⟨r.nn, some (lastD told), rowS ps mv (keepS (keepS S told) (dueD ps now (lastD told) (keepS S told))), adsS r.nn r.ads S told, keepS (keepS S told) (dueD ps now (lastD told) (keepS S told))⟩, foundS ps mv r.nn many r.ads S told now) := by
  have e1 : minusP r.sent ((r.sent.map (·.1)).filter (hasN (rngD told))) = rowS ps mv (keepS S told) := by
    rw [h.sent, rowS_num, minus_row]
    congr 1
    refine List.filter_congr fun n hn => ?_
    congr 1
    rw [Bool.eq_iff_iff, List.contains_iff_mem, List.contains_iff_mem, List.mem_filter, mem_rng]
    exact ⟨fun h => h.2, fun h => ⟨hn, h⟩⟩
  have e2 : lastD told ∉ keepS S told := fun hm => (mem_keep.mp hm).2 hL
  have ha : (keepS S told).Pairwise (· < ·) := h.asc.filter _
  unfold toldD
  simp only [hg, e1, h.out]
  rw [show (S.filter fun n => !told.contains n) = keepS S told from rfl, lost_due e2, if_pos rfl, least_row, minus_row, pairs_row (D := dueD ps now (lastD told) (keepS S told)) ha fun n hn => (List.mem_filter.mp hn).1]
  rfl
end PPl3
section PPl4
open PySem PySem.W PyProof.Rows PySem.Calls
set_option Elab.async false
set_option linter.unusedVariables false
set_option maxRecDepth 100000
theorem mem_due {ps : List Pack} {now L n : Int} {S : List Int} : n ∈ dueD ps now L S ↔ n ∈ S ∧ n < L ∧ (n + 3 ≤ L ∨ (pk ps n).1 + 150 ≤ now) := by
  simp [dueD]
theorem hasN_ads {nn : Nat} {ads : List (Int × Int)} {S told : List Int} (hd : Desc ads) (hads : ∀ k, hasN ads k = true → k ∈ told) : Desc (adsS nn ads S told) ∧ ∀ k, hasN (adsS nn ads S told) k = true ↔ leastS nn (keepS S told) ≤ k ∧ (hasN ads k = true ∨ k ∈ told) := by
  unfold adsS
  have e : rngD told = told.reverse.map fun n => (n, n) := rfl
  rw [e]
  obtain ⟨a, b⟩ := addAll_out (leastS nn (keepS S told)) told.reverse ads hd
  obtain ⟨c, d⟩ := prune_out (leastS nn (keepS S told)) a
  refine ⟨c, fun k => ?_⟩
  rw [d, b, List.mem_reverse]
  constructor
  · rintro ⟨x, y | y⟩
    · exact ⟨x, .inl y⟩
    · exact ⟨x, .inr y.2⟩
  · rintro ⟨x, y | y⟩
    · exact ⟨x, .inl y⟩
    · exact ⟨x, .inr ⟨x, y⟩⟩
theorem told_spec {ps : List Pack} {mv now : Int} {r : RS} {S told : List Int} {many : Nat} (h : Inv ps mv r S) (hnn : r.nn = many) (hd : Desc r.ads) (hads : ∀ k, hasN r.ads k = true → k ∈ told) (hL : lastD told ∈ told) (hg : lgMax r.lg (lastD told) = lastD told) :
    ∃ r' S', toldD ps mv many told now r = some (r', foundS ps mv many many r.ads S told now) ∧ Inv ps mv r' S' ∧ r'.nn = many ∧ r'.lg = some (lastD told) ∧ Desc r'.ads ∧ (∀ k, hasN r'.ads k = true → k ∈ told) ∧ (∀ n ∈ S', n ∈ S) ∧
      FSpec ps mv told many S (dueD ps now (lastD told) (keepS S told)) (foundS ps mv many many r.ads S told now) := by
  subst hnn
  obtain ⟨a1, a2⟩ := hasN_ads (nn := r.nn) (S := S) hd hads
  have hk : (keepS S told).Pairwise (· < ·) := h.asc.filter _
  have hDk : ∀ n ∈ dueD ps now (lastD told) (keepS S told), n ∈ keepS S told := fun n hn => (mem_due.mp hn).1
  have hDr : ∀ n ∈ dueD ps now (lastD told) (keepS S told), 0 ≤ n ∧ n < (r.nn : Int) := fun n hn => h.rng n (mem_keep.mp (hDk n hn)).1
  refine ⟨_, _, told_eq h hL hg, ⟨rfl, rfl, hk.filter _, fun n hn => h.rng n (mem_keep.mp (mem_keep.mp hn).1).1, Nat.le_trans (List.length_filter_le _ _) (Nat.le_trans (List.length_filter_le _ _) h.len)⟩, rfl, rfl, a1, fun k hk => ?_, fun n hn => (mem_keep.mp (mem_keep.mp hn).1).1,
    ⟨rfl, hk.filter _, fun n hn => mem_keep.mp (hDk n hn), hDr, Nat.le_trans (List.length_filter_le _ _) (Nat.le_trans (List.length_filter_le _ _) h.len), ?_, fun n hn hm => ?_, fun n hn m hm k h1 h2 => ?_⟩⟩
  · rcases ((a2 k).mp hk).2 with x | x
    · exact hads k x
    · exact x
  · refine Nat.le_trans (List.length_filter_le _ _) ?_
    simp [nums]
  · have h1 := (List.mem_filter.mp hm).2
    have h2 := ((a2 n).mp h1).2
    refine (mem_keep.mp (hDk n hn)).2 ?_
    rcases h2 with x | x
    · exact hads n x
    · exact x
  · have hls := leastS_le (nn := r.nn) hk (hDk n hn)
    have hn0 := (hDr n hn).1
    have hm0 := (hDr m hm).2
    show k ∈ (nums r.nn).filter (hasN (adsS r.nn r.ads S told)) ↔ _
    rw [List.mem_filter, mem_nums, a2]
    constructor
    · rintro ⟨_, _, x | x⟩
      · exact hads k x
      · exact x
    · intro x
      exact ⟨⟨by omega, by omega⟩, by omega, .inr x⟩
theorem lastD_cons (p : Int) (r : List Int) : lastD (p :: r) = if r = [] then p else lastD r := by
  cases r with
  | nil => rfl
  | cons q t => simp [lastD]
theorem lastD_mem : ∀ {l : List Int}, l ≠ [] → lastD l ∈ l
  | [], h => absurd rfl h
  | p :: r, _ => by
    rw [lastD_cons]
    split
    · exact .head _
    · rename_i h; exact .tail _ (lastD_mem h)
theorem lastD_ge : ∀ {l : List Int}, l.Pairwise (· < ·) → ∀ {n : Int}, n ∈ l → n ≤ lastD l
  | [], _, n, h => nomatch h
  | p :: r, ha, n, h => by
    obtain ⟨h1, h2⟩ := List.pairwise_cons.mp ha
    rw [lastD_cons]
    split
    · rename_i e; subst e; rw [List.mem_singleton.mp h]; exact Int.le_refl _
    · rename_i e
      rcases List.mem_cons.mp h with rfl | h
      · have := h1 _ (lastD_mem e); omega
      · exact lastD_ge h2 h
theorem asc_uniq {as bs : List Int} (ha : as.Pairwise (· < ·)) (hb : bs.Pairwise (· < ·)) (h : ∀ n, n ∈ as ↔ n ∈ bs) : as = bs := by
  refine sorted_uniq ((List.perm_ext_iff_of_nodup (ha.imp fun h => by omega) (hb.imp fun h => by omega)).mpr h) (ha.imp fun h => by omega) (hb.imp fun h => by omega)
theorem inv0 (ps : List Pack) (mv : Int) : Inv ps mv rs0 [] := ⟨rfl, rfl, .nil, by simp, by simp [rs0]⟩
theorem send0 (ps : List Pack) (mv : Int) (k : Nat) : Inv ps mv (sendN ps mv k rs0) (nums k) ∧ (sendN ps mv k rs0).nn = k ∧ (sendN ps mv k rs0).lg = none ∧ (sendN ps mv k rs0).ads = [] := by
  obtain ⟨S, i, m, e1, e2, e3⟩ := send_inv (inv0 ps mv) k
  have : S = nums k := asc_uniq i.asc (nums_asc k) fun n => by
    rw [m, mem_nums]
    simp [rs0]
  subst this
  exact ⟨i, by rw [e1]; simp [rs0], e2, e3⟩
theorem desc_nil : Desc [] := ⟨.nil, by simp⟩
theorem hasN_nil (k : Int) : hasN [] k = false := rfl
theorem shift_prs (ps : List Pack) (mv : Int) (D : List Int) : shiftD mv (prs ps 0 D) = prs ps mv D := by
  unfold shiftD prs
  rw [List.map_map]
  refine List.map_congr_left fun n _ => ?_
  simp
theorem mem_prs {ps : List Pack} {mv : Int} {D : List Int} {p : Int × Int} : p ∈ prs ps mv D ↔ p.1 ∈ D ∧ (pk ps p.1).2.1 = true ∧ p.2 = (pk ps p.1).1 + mv := by
  unfold prs
  rw [List.mem_map]
  constructor
  · rintro ⟨n, hn, rfl⟩
    exact ⟨(List.mem_filter.mp hn).1, (List.mem_filter.mp hn).2, rfl⟩
  · rintro ⟨a, b, c⟩
    exact ⟨p.1, List.mem_filter.mpr ⟨a, b⟩, by rw [← c]⟩
theorem prs_asc {ps : List Pack} {mv : Int} {N : Nat} {D : List Int} (hasc : ∀ i j : Nat, i < j → j < N → (pk ps (i : Int)).1 < (pk ps (j : Int)).1) (ha : D.Pairwise (· < ·)) (hr : ∀ n ∈ D, 0 ≤ n ∧ n < (N : Int)) : Asc2 (prs ps mv D) := by
  unfold Asc2 prs
  refine List.pairwise_map.mpr ?_
  refine List.Pairwise.imp_of_mem ?_ (ha.filter _)
  intro a b ma mb hab
  have h1 := hr a (List.mem_filter.mp ma).1
  have h2 := hr b (List.mem_filter.mp mb).1
  refine ⟨hab, ?_⟩
  have := hasc a.toNat b.toNat (by omega) (by omega)
  rw [show ((a.toNat : Nat) : Int) = a by omega, show ((b.toNat : Nat) : Int) = b by omega] at this
  show (pk ps a).1 + mv < (pk ps b).1 + mv
  omega
section
variable {ps : List Pack} {mv first : Int} {N M : Nat} {T S D : List Int} {f : Found} (hasc : ∀ i j : Nat, i < j → j < N → (pk ps (i : Int)).1 < (pk ps (j : Int)).1)
include hasc
theorem FSpec.asc2 (h : FSpec ps mv T M S D f) (hM : M ≤ N) : Asc2 f.1 := by
  rw [h.pr]; exact prs_asc hasc h.asc fun n hn => by have := h.rng n hn; omega
theorem FSpec.ok (h : FSpec ps mv T M S D f) (hM : M ≤ N) (h9 : N ≤ 9) : FoundOk f := by
  refine ⟨?_, (h.asc2 hasc hM).imp fun h => h.1, by have := h.bl; omega⟩
  rw [h.pr]; unfold prs; rw [List.length_map]
  have := h.dl
  refine Nat.le_trans (List.length_filter_le _ _) (by omega)
omit hasc in
theorem FSpec.free (h : FSpec ps mv T M S D f) {p q : Int × Int} (hp : p ∈ f.1) (hq : q ∈ f.1) : Free T p.1 q.1 ↔ Free f.2 p.1 q.1 := by
  rw [h.pr] at hp hq
  have h1 := (mem_prs.mp hp).1
  have h2 := (mem_prs.mp hq).1
  constructor
  · intro hf k hk hkk; exact hf k ((h.bt _ h1 _ h2 k hkk.1 hkk.2).mp hk) hkk
  · intro hf k hk hkk; exact hf k ((h.bt _ h1 _ h2 k hkk.1 hkk.2).mpr hk) hkk
theorem FSpec.just (h : FSpec ps mv T M S D f) (hM : M ≤ N) : just f.2 first (widest T first f.1) f.1 = true :=
  just_ok (h.asc2 hasc hM) (fun p hp => by rw [h.pr] at hp; exact h.nb _ (mem_prs.mp hp).1) fun p hp q hq => h.free hp hq
end
theorem rest_ne {ds : List (Int × Int)} (ha : Asc2 ds) {k : Nat} {p q : Int × Int} (hk : ds[k]? = some p) (hq : q ∈ ds.take k ++ ds.drop (k + 1)) : q.1 ≠ p.1 := by
  obtain ⟨hi, e⟩ := List.getElem?_eq_some_iff.mp hk
  have hds : ds = ds.take k ++ p :: ds.drop (k + 1) := by
    rw [← e, ← List.drop_eq_getElem_cons hi, List.take_append_drop]
  rw [hds] at ha
  obtain ⟨_, h2, h3⟩ := List.pairwise_append.mp ha
  obtain ⟨h4, _⟩ := List.pairwise_cons.mp h2
  rcases List.mem_append.mp hq with hq | hq
  · have := (h3 q hq p (.head _)).1; omega
  · have := (h4 q hq).1; omega
theorem rest_sub {ds : List (Int × Int)} {k : Nat} : (ds.take k ++ ds.drop (k + 1)).Sublist ds := by
  rw [← List.eraseIdx_eq_take_drop_succ]; exact List.eraseIdx_sublist _ _
theorem free_snoc {l : List Int} {x a b : Int} : Free (l ++ [x]) a b ↔ Free l a b ∧ ¬ (a < x ∧ x < b) := by
  unfold Free
  simp only [List.mem_append, List.mem_singleton]
  constructor
  · intro h; exact ⟨fun k hk => h k (.inl hk), h x (.inr rfl)⟩
  · rintro ⟨h1, h2⟩ k (hk | rfl)
    · exact h1 k hk
    · exact h2
end PPl4
section PPl
open PySem PySem.W PyProof.Rows PySem.Calls
set_option Elab.async false
set_option linter.unusedVariables false
set_option maxRecDepth 100000
theorem law_plain {ps : List Pack} {N cut : Nat} (now mv first : Int) (hpl : ps.length = N) (h6 : 6 ≤ N) (h9 : N ≤ 9) (hasc : ∀ i j : Nat, i < j → j < N → (pk ps (i : Int)).1 < (pk ps (j : Int)).1)
    (hlast : (pk ps (N - 1 : Nat)).2.2 = true) (htl : (pk ps (N - 1 : Nat)).1 = now) (hc2 : 2 ≤ cut) (hcN : cut < N) : ∃ f1 f2 fo, LawOk ps N cut now mv first (cameD ps N) (earlyD ps N cut) f1 f2 fo := by
  have eN : ((N - 1 : Nat) : Int) = (N : Int) - 1 := by omega
  have mc : ∀ n, n ∈ cameD ps N ↔ (0 ≤ n ∧ n < (N : Int)) ∧ (pk ps n).2.2 = true := fun n => by
    unfold cameD; rw [List.mem_filter, mem_nums]
  have me : ∀ n, n ∈ earlyD ps N cut ↔ n ∈ cameD ps N ∧ n < (cut : Int) := fun n => by
    unfold earlyD; rw [List.mem_filter, decide_eq_true_eq]
  have hNc : ((N : Int) - 1) ∈ cameD ps N := (mc _).mpr ⟨by omega, by rw [← eN]; exact hlast⟩
  have hac : (cameD ps N).Pairwise (· < ·) := (nums_asc N).filter _
  have hae : (earlyD ps N cut).Pairwise (· < ·) := hac.filter _
  have hne : cameD ps N ≠ [] := List.ne_nil_of_mem hNc
  generalize cameD ps N = came at *
  generalize earlyD ps N cut = early at *
  have hLm : lastD came ∈ came := lastD_mem hne
  have hL : lastD came = (N : Int) - 1 := by
    have h1 := ((mc _).mp hLm).1.2
    have h2 := lastD_ge hac hNc
    omega
  have once : ∀ m, (∃ r, runD ps m [(N, came, now + 1000)] rs0 = some (r, [foundS ps m N N [] (nums N) came (now + 1000)])) ∧ FSpec ps m came N (nums N) (dueD ps (now + 1000) (lastD came) (keepS (nums N) came)) (foundS ps m N N [] (nums N) came (now + 1000)) := by
    intro m
    obtain ⟨i, e1, e2, e3⟩ := send0 ps m N
    obtain ⟨r', S', ht, _, _, _, _, _, _, sp⟩ := told_spec (now := now + 1000) i e1 (by rw [e3]; exact desc_nil) (by rw [e3]; intro k hk; rw [hasN_nil] at hk; cases hk) hLm (by rw [e2]; rfl)
    rw [e3] at ht sp
    refine ⟨⟨r', ?_⟩, sp⟩
    have e : lookD ps m (N, came, now + 1000) rs0 = toldD ps m N came (now + 1000) (sendN ps m N rs0) := if_neg hne
    rw [runD, e, ht]; rfl
  have second : ∀ r1 S1, Inv ps 0 r1 S1 → r1.nn = cut → Desc r1.ads → (∀ k, hasN r1.ads k = true → k ∈ came) → lgMax r1.lg (lastD came) = lastD came → ∃ r f2 S2 D2, runD ps 0 [(N, came, now + 1000)] r1 = some (r, [f2]) ∧ FSpec ps 0 came N S2 D2 f2 ∧ ∀ n ∈ D2, n < (N : Int) - 1 := by
    intro r1 S1 i1 n1 d1 a1 g1
    obtain ⟨S2, i, m, e1, e2, e3⟩ := send_inv i1 (N - r1.nn)
    obtain ⟨r', S', ht, _, _, _, _, _, _, sp⟩ := told_spec (now := now + 1000) (many := N) i (by rw [e1]; omega) (by rw [e3]; exact d1) (by rw [e3]; exact a1) hLm (by rw [e2]; exact g1)
    refine ⟨r', _, _, _, ?_, sp, fun n hn => by have := (mem_due.mp hn).2.1; omega⟩
    have e : lookD ps 0 (N, came, now + 1000) r1 = toldD ps 0 N came (now + 1000) (sendN ps 0 (N - r1.nn) r1) := if_neg hne
    rw [runD, e, ht]; rfl
  have apart : ∃ r f1 f2 S1 D1 S2 D2, runD ps 0 [(cut, early, (pk ps ((cut : Int) - 1)).1 + 140), (N, came, now + 1000)] rs0 = some (r, [f1, f2]) ∧ FSpec ps 0 early cut S1 D1 f1 ∧ FSpec ps 0 came N S2 D2 f2 ∧ ∀ n ∈ D2, n < (N : Int) - 1 := by
    obtain ⟨i, e1, e2, e3⟩ := send0 ps 0 cut
    by_cases he : early = []
    · obtain ⟨r, f2, S2, D2, hr, sp, hD⟩ := second _ _ i e1 (by rw [e3]; exact desc_nil) (by rw [e3]; intro k hk; rw [hasN_nil] at hk; cases hk) (by rw [e2]; rfl)
      refine ⟨r, ([], []), f2, [], [], S2, D2, ?_, ⟨rfl, .nil, by simp, by simp, by simp, by simp, by simp, by simp⟩, sp, hD⟩
      have e : lookD ps 0 (cut, early, (pk ps ((cut : Int) - 1)).1 + 140) rs0 = some (sendN ps 0 cut rs0, ([], [])) := if_pos he
      rw [runD, e, Option.bind_some]
      show Option.map _ (runD ps 0 [(N, came, now + 1000)] (sendN ps 0 cut rs0)) = _
      rw [hr]; rfl
    · have hEm := lastD_mem he
      obtain ⟨r', S', ht, i', n', l', d', a', _, sp1⟩ := told_spec (now := (pk ps ((cut : Int) - 1)).1 + 140) (many := cut) i e1 (by rw [e3]; exact desc_nil) (by rw [e3]; intro k hk; rw [hasN_nil] at hk; cases hk) hEm (by rw [e2]; rfl)
      have hle := lastD_ge hac ((me _).mp hEm).1
      obtain ⟨r, f2, S2, D2, hr, sp, hD⟩ := second r' S' i' n' d' (fun k hk => ((me k).mp (a' k hk)).1) (by rw [l']; show max _ _ = _; omega)
      refine ⟨r, _, f2, _, _, S2, D2, ?_, sp1, sp, hD⟩
      have e : lookD ps 0 (cut, early, (pk ps ((cut : Int) - 1)).1 + 140) rs0 = toldD ps 0 cut early ((pk ps ((cut : Int) - 1)).1 + 140) (sendN ps 0 cut rs0) := if_neg he
      rw [runD, e, ht, Option.bind_some]
      show Option.map _ (runD ps 0 [(N, came, now + 1000)] r') = _
      rw [hr]; rfl
  obtain ⟨r, f1, f2, S1, D1, S2, D2, hrA, sp1, sp2, hD2⟩ := apart
  obtain ⟨hrO, spO⟩ := once 0
  obtain ⟨⟨rL, hrL⟩, _⟩ := once mv
  have hfo : (foundS ps 0 N N [] (nums N) came (now + 1000)).1 = prs ps 0 (dueD ps (now + 1000) (lastD came) (keepS (nums N) came)) := rfl
  have hfL : foundS ps mv N N [] (nums N) came (now + 1000) = (shiftD mv (foundS ps 0 N N [] (nums N) came (now + 1000)).1, (foundS ps 0 N N [] (nums N) came (now + 1000)).2) := by
    rw [hfo, shift_prs]; rfl
  have toDo : ∀ n, 0 ≤ n → n < (N : Int) - 1 → n ∉ came → n ∈ dueD ps (now + 1000) (lastD came) (keepS (nums N) came) := by
    intro n h0 h1 h2
    refine mem_due.mpr ⟨mem_keep.mpr ⟨mem_nums.mpr ⟨h0, by omega⟩, h2⟩, by omega, .inr ?_⟩
    have := hasc n.toNat (N - 1) (by omega) (by omega)
    rw [htl, show ((n.toNat : Nat) : Int) = n by omega] at this
    omega
  rw [hfL] at hrL
  have hasO := spO.asc2 hasc (Nat.le_refl N)
  generalize foundS ps 0 N N [] (nums N) came (now + 1000) = fo at *
  have w1 : widest early first f1.1 ≤ widest came first fo.1 := by
    refine widest_mono fun a ha b hb hc => ?_
    rw [sp1.pr] at ha hb
    have up : ∀ p, p ∈ prs ps 0 D1 → p ∈ fo.1 := fun p hp => by
      obtain ⟨m1, m2, m3⟩ := mem_prs.mp hp
      have hr := sp1.rng _ m1
      rw [hfo]
      exact mem_prs.mpr ⟨toDo _ hr.1 (by omega) fun hcm => (sp1.sub _ m1).2 ((me _).mpr ⟨hcm, hr.2⟩), m2, m3⟩
    refine ⟨up a ha, up b hb, hc.1, hc.2.1, fun k hk hkk => hc.2.2 k ((me k).mpr ⟨hk, ?_⟩) hkk⟩
    have := (sp1.rng _ (mem_prs.mp hb).1).2
    omega
  have w2 : widest came first f2.1 ≤ widest came first fo.1 := by
    refine widest_mono fun a ha b hb hc => ?_
    rw [sp2.pr] at ha hb
    have up : ∀ p, p ∈ prs ps 0 D2 → p ∈ fo.1 := fun p hp => by
      obtain ⟨m1, m2, m3⟩ := mem_prs.mp hp
      rw [hfo]
      exact mem_prs.mpr ⟨toDo _ (sp2.rng _ m1).1 (hD2 _ m1) (sp2.sub _ m1).2, m2, m3⟩
    exact ⟨up a ha, up b hb, hc⟩
  have jo := spO.just (first := first) hasc (Nat.le_refl N)
  refine ⟨f1, f2, fo, ⟨r, hrA⟩, hrO, ⟨rL, hrL⟩, sp1.ok hasc (by omega) h9, sp2.ok hasc (Nat.le_refl N) h9, spO.ok hasc (Nat.le_refl N) h9, sp1.just hasc (by omega), sp2.just hasc (Nat.le_refl N), jo, w1, w2, by rw [just_shift]; exact jo, fun k p hk => ?_, fun k p hk => ?_⟩
  · refine widest_mono fun a ha b hb hc => ⟨rest_sub.subset ha, rest_sub.subset hb, hc.1, hc.2.1, (free_snoc.mp hc.2.2).1⟩
  · refine just_ok (hasO.sublist rest_sub) (fun q hq hm => ?_) fun a ha b hb => ?_
    · rcases List.mem_append.mp hm with hm | hm
      · have hq' := rest_sub.subset hq
        rw [hfo] at hq'
        exact spO.nb _ (mem_prs.mp hq').1 hm
      · exact rest_ne hasO hk hq (List.mem_singleton.mp hm)
    · rw [free_snoc, free_snoc, spO.free (rest_sub.subset ha) (rest_sub.subset hb)]
end PPl
section PC19
open PySem PySem.W PyProof.Rows PySem.Calls
set_option Elab.async false
set_option linter.unusedVariables false
set_option maxRecDepth 100000
set_option maxHeartbeats 4000000
noncomputable def nowD (ns : List Int) : Nat → Int
  | 0 => 1000
  | i + 1 => nowD ns i + 200 + 100 * draw ns (1 + 3 * i) 6
noncomputable def packD (ns : List Int) (j : Nat) : Pack := (nowD ns (j + 1), draw ns (1 + 3 * j + 1) 4 != 3, draw ns (1 + 3 * j + 1 + 1) 3 == 0)
noncomputable def packs0 (ns : List Int) (i : Nat) : List Pack := (List.range i).map (packD ns)
theorem packs0_succ (ns : List Int) (i : Nat) : packs0 ns (i + 1) = packs0 ns i ++ [packD ns i] := by simp [packs0, List.range_succ]
theorem packs0_len (ns : List Int) (i : Nat) : (packs0 ns i).length = i := by simp [packs0]
noncomputable def psD (ns : List Int) (N : Nat) : List Pack := (packs0 ns N).set (N - 1) (nowD ns N, (pk (packs0 ns N) (N - 1 : Nat)).2.1, true)
theorem psD_len (ns : List Int) (N : Nat) : (psD ns N).length = N := by simp [psD, packs0_len]
theorem psD_time (ns : List Int) (N : Nat) {k : Nat} (h : k < N) : (pk (psD ns N) (k : Int)).1 = nowD ns (k + 1) := by
  unfold pk psD
  rw [List.getD_eq_getElem?_getD, Int.toNat_natCast, List.getElem?_set]
  split
  · rename_i e
    rw [if_pos (by rw [packs0_len]; omega)]
    show nowD ns N = _
    rw [show k + 1 = N by omega]
  · simp [packs0, h, packD]
theorem psD_last (ns : List Int) {N : Nat} (h : 0 < N) : (pk (psD ns N) (N - 1 : Nat)).2.2 = true := by
  unfold pk psD
  rw [List.getD_eq_getElem?_getD, Int.toNat_natCast, List.getElem?_set, if_pos rfl, if_pos (by rw [packs0_len]; omega)]; rfl
theorem nowD_lt (ns : List Int) (i : Nat) : ∀ k, nowD ns i < nowD ns (i + (k + 1))
  | 0 => by have := draw_rng ns (1 + 3 * i) (many := 6) (by omega); show nowD ns i < nowD ns i + 200 + 100 * draw ns (1 + 3 * i) 6; omega
  | k + 1 => by
    have h1 := nowD_lt ns i k
    have := draw_rng ns (1 + 3 * (i + (k + 1))) (many := 6) (by omega)
    rw [show i + (k + 1 + 1) = (i + (k + 1)) + 1 by omega]
    show _ < nowD ns (i + (k + 1)) + 200 + 100 * draw ns (1 + 3 * (i + (k + 1))) 6
    omega
theorem psD_asc (ns : List Int) (N : Nat) {i j : Nat} (h : i < j) (hj : j < N) : (pk (psD ns N) (i : Int)).1 < (pk (psD ns N) (j : Int)).1 := by
  rw [psD_time ns N (by omega), psD_time ns N hj]
  have := nowD_lt ns (i + 1) (j - i - 1)
  rwa [show i + 1 + (j - i - 1 + 1) = j + 1 by omega] at this
theorem Paired.set' {α β : Type} {R : α → β → Prop} {xs : List α} {ys : List β} (x : Paired R xs ys) : ∀ (i : Nat) (a : α) (b : β), R a b → Paired R (xs.set i a) (ys.set i b) := by
  induction x with
  | nil => intro i a b r; exact .nil
  | cons p _ ih =>
    intro i a b r
    cases i with
    | zero => exact .cons r ‹_›
    | succ i => exact .cons p (ih i a b r)
section
variable {w : World} {mg mb : Str → Option Value} {prog : Program} {A : Around} {E : Value → Shared → Prop} {s : Shared} {h g₀ : Heap} {tk n : Nat}
inductive PackJ (l a₂ : Addr) (ns : List Int) (i : Nat) (g' : Heap) (V : List (Str × Option Value)) (M : List (Addr × (Obj → Prop))) : Prop
  | mk (p b : Addr) (vp : List Value) (t : Tok) (v1 v2 : Option Value) (hvp : Tups PackG (packs0 ns i) vp g') (eM : M = [(p, LstP vp), (b, BoxP a₂ (1 + 3 * i))]) (eV : V = ([("script", some (.ref l)), ("box", some (.ref b)), ("packs", some (.ref p)), ("now", some (.int (nowD ns i) t)), ("turn", v1), ("asks", v2), ("many", none), ("first", none), ("cut", none), ("move", none), ("came", none), ("early", none), ("whole", none), ("apart", none), ("once", none), ("later", none), ("widths", none), ("at", none), ("told", none), ("pairs", none), ("between", none), ("rest", none), ("more", none), ("widest", none)] : List (Str × Option Value)))
inductive EnumJ (l b p a₂ fc fe DA DO DL : Addr) (now first mv W1 W2 W3 : Int) (K : Nat) (t tf : Tok) (v1 v2 : Option Value) (i : Nat) (g' : Heap) (V : List (Str × Option Value)) (M : List (Addr × (Obj → Prop))) : Prop
  | mk (wd : Addr) (ws : List Value) (w1 w2 w3 : Option Value) (tmv : Tok) (v3 v4 v5 v6 : Option Value) (hws : IntsAre ws ([W1, W2, W3].take i)) (eM : M = [(wd, LstP ws), (b, BoxP a₂ K)]) (eV : V = ([("script", some (.ref l)), ("box", some (.ref b)), ("packs", some (.ref p)), ("now", some (.int now t)), ("turn", v1), ("asks", v2), ("many", w1), ("first", some (.int first tf)), ("cut", w2), ("move", some (.int mv tmv)), ("came", some (.ref fc)), ("early", some (.ref fe)), ("whole", w3), ("apart", some (.ref DA)), ("once", some (.ref DO)), ("later", some (.ref DL)), ("widths", some (.ref wd)), ("at", v3), ("told", v4), ("pairs", v5), ("between", v6), ("rest", none), ("more", none), ("widest", none)] : List (Str × Option Value)))
theorem law_ct {l : Addr} {vl : List Value} {ns₀ : List Int} {RR : Result → Shared → Prop} (hRR : ∀ v s', Post s h [] (fun v h' => v = .bool true) v s' → RR (.ok (.ret v)) s') (R : Room (n+16) A) (W : Wd w mg mb h) (hl : IsL h l vl) (hi : IntsAre vl ns₀) (hlen : ns₀.length ≤ 63) :
    codeAny (model prog w) A (.call (.ref 289) ⟨[.ref l], []⟩) RR (upd s h tk) := by
  refine enterC hRR (V := [("script", some (.ref l)), ("box", none), ("packs", none), ("now", none), ("turn", none), ("asks", none), ("many", none), ("first", none), ("cut", none), ("move", none), ("came", none), ("early", none), ("whole", none), ("apart", none), ("once", none), ("later", none), ("widths", none), ("at", none), ("told", none), ("pairs", none), ("between", none), ("rest", none), ("more", none), ("widest", none)]) (M := []) R W (Sub.rfl' _) rfl ?hcd rfl rfl rfl rfl rfl ?hkind ?hcn rfl rfl rfl ?hV ?hVn (List.forall_mem_nil _) List.nodup_nil ?q
  walk_at "facts"
  intro L h₁ tk₁ g kg hg _ _ _ F R'
  have hlg := hl.up kg
  repeat walk_at "s"
  have hvl : vl.length ≤ 63 := by have := hi.length; omega
  rename Fx _ _ _ _ _ _ _ _ => F
  refine slc F (hlg.up F.keep) (by rw [sizeLine_eq]; omega) .none (.int _ _) .none (by decide) (pick_upto (by decide)) fun a h₂ F hn k₂ => ?_
  repeat walk_at "s"
  rename Fx _ _ _ _ _ _ _ _ => F
  refine b_listl F (F.isL .head) (by rw [sizeLine_eq, List.length_take]; omega) fun a₂ h₃ F k₃ => ?_
  repeat walk_at "s"
  rename Fx _ _ _ _ _ _ _ _ => F
  refine Fx.frzc F ?_
  rintro g₁ o₁ kg₁ _ _ F
  have F := Fx.pull2 F
  refine Fx.frzc F ?_
  rintro g₂ o₂ kg₂ ha₂ ⟨c₂, rfl⟩ F
  have F := Fx.pull2 F
  refine Fx.frzc F ?_
  rintro g₃ o₃ kg₃ _ _ F
  have kgg : Sub g g₃ := (kg₁.trans kg₂).trans kg₃
  have hLa : IsL g₃ a₂ (vl.take 34) := IsL.up kg₃ ⟨_, ha₂, rfl, c₂, rfl⟩
  have hIa : IntsAre (vl.take 34) (ns₀.take 34) := ints_take 34 hi
  have hna : (ns₀.take 34).length ≤ 64 := by rw [List.length_take]; omega
  generalize ns₀.take 34 = ns at hIa hna
  generalize vl.take 34 = va at hIa hLa
  have F := F.weak (Q := BoxP a₂ 0) (.tail .head) (.tail .head) (fun o ⟨c, e⟩ => ⟨_, c, e⟩)
  refine take_use (n := n) (R'.less (by omega)) F hLa hIa hna (by omega) (by omega) (.tail .head) (.tail .head) fun h₄ tk₄ t₄ F => ?_
  have hd0 := draw_rng ns 0 (many := 4) (by omega)
  repeat walk_at "s"
  obtain ⟨N, hN⟩ : ∃ N : Nat, 6 + draw ns 0 4 = N := ⟨(6 + draw ns 0 4).toNat, by omega⟩
  rw [hN]
  have hN6 : 6 ≤ N := by omega
  have hN9 : N ≤ 9 := by omega
  clear hN hd0
  refine b_range fun rr hV tkV tr ur vr kV hrr => ?_
  have F := F.ext kV
  refine forL (PackJ l a₂ ns)
    F (src_r R'.handled hrr (by omega) F.keep) ⟨_, _, [], _, _, _, .nil, rfl, rfl⟩ ?turn ?done
  case turn =>
    rintro i v g₄ V₄ M₄ h₅ tk₅ I oI hin ⟨ti, rfl⟩ ⟨p, b, vp, t, v1, v2, hvp, rfl, rfl⟩ k₄ F₄
    have hvl : vp.length = i := by rw [← Paired.length hvp]; simp [packs0]
    have hLa₄ := hLa.up k₄
    have h28 : 1 + 3 * i ≤ 28 := by omega
    repeat walk_at "s"
    rename Fx _ _ _ _ _ _ _ _ => F₄
    refine take_use (n := n) (R'.less (by omega)) F₄ hLa₄ hIa hna (up0 h28) (by omega) (.tail (.tail .head)) (.tail (.tail .head)) fun h₆ tk₆ t₆ F₄ => ?_
    have hd1 := draw_rng ns (1 + 3 * i) (many := 6) (by omega)
    repeat walk_at "s"
    rename Fx _ _ _ _ _ _ _ _ => F₄
    refine take_use (n := n) (R'.less (by omega)) F₄ hLa₄ hIa hna (up1 h28) (by omega) (.tail (.tail .head)) (.tail (.tail .head)) fun h₇ tk₇ t₇ F₄ => ?_
    repeat walk_at "s"
    rename Fx _ _ _ _ _ _ _ _ => F₄
    refine take_use (n := n) (R'.less (by omega)) F₄ hLa₄ hIa hna (up2 h28) (by omega) (.tail (.tail .head)) (.tail (.tail .head)) fun h₈ tk₈ t₈ F₄ => ?_
    repeat walk_at "s"
    rename Fx _ _ _ _ _ _ _ _ => F₄
    rw [show 1 + 3 * i + 1 + 1 + 1 = 1 + 3 * (i + 1) by omega] at F₄
    refine Fx.frzc F₄ ?_
    rintro g₅ o₅ kg₅ hT hTP F₄
    refine TurnE.nxt F₄ kg₅ ⟨p, b, _, _, _, _, ?_, rfl, rfl⟩
    rw [packs0_succ]
    exact Paired.snoc (hvp.up kg₅) ⟨_, _, rfl, hTP.isT hT, ⟨_, rfl⟩⟩
  case done =>
    rintro g₄ V₄ M₄ h₅ tk₅ ⟨p, b, vp, t, v1, v2, hvp, rfl, rfl⟩ k₄ F₄
    have hvl : vp.length = N := by rw [← Paired.length hvp, packs0_len]
    have hLa := hLa.up k₄
    have hN28 : 1 + 3 * N ≤ 28 := by omega
    obtain ⟨Tl, ul, hvT, hTl, tl, rfl⟩ := pk_at hvp (k := N - 1) (by rw [packs0_len]; omega)
    have hvT : vp[((-1 : Int) + (vp.length : Int)).toNat]? = some (.ref Tl) := by rw [← hvT, idx_last hvl (by omega)]; rfl
    repeat walk_at "s"
    rename Fx _ _ _ _ _ _ _ _ => F
    refine Fx.frzc F ?_
    rintro g₅ o₅ kg₅ hT hTP F
    refine Fx.frzc F ?_
    rintro g₆ o₆ kg₆ hp ⟨cp, rfl⟩ F
    have hT := (hTP.isT hT).up kg₆
    have ei : ((-1 : Int) + (vp.length : Int)).toNat = N - 1 := idx_last hvl (by omega)
    rw [ei] at hp
    have hps : Tups PackG (psD ns N) _ g₆ := Paired.set' (hvp.up (kg₅.trans kg₆)) (N - 1) (nowD ns N, (pk (packs0 ns N) (N - 1 : Nat)).2.1, true) _ ⟨_, _, rfl, hT, ⟨_, rfl⟩⟩
    obtain ⟨vq, hps, hvq, hp⟩ : ∃ vq, Tups PackG (psD ns N) vq g₆ ∧ vq.length = N ∧ IsL g₆ p vq := ⟨_, hps, by rw [List.length_set]; exact hvl, ⟨_, hp, rfl, cp, rfl⟩⟩
    clear ei hvT
    have hasc : ∀ i j : Nat, i < j → j < N → (pk (psD ns N) (i : Int)).1 < (pk (psD ns N) (j : Int)).1 := fun i j h1 h2 => psD_asc ns N h1 h2
    have hlast := psD_last ns (N := N) (by omega)
    have htl : (pk (psD ns N) (N - 1 : Nat)).1 = nowD ns N := by rw [psD_time ns N (by omega), show N - 1 + 1 = N by omega]
    have hpl := psD_len ns N
    generalize psD ns N = ps at hps hasc hlast htl hpl
    generalize nowD ns N = now at F htl
    have hLa := hLa.up (kg₅.trans kg₆)
    have kg6 : Sub g g₆ := (kgg.trans k₄).trans (kg₅.trans kg₆)
    clear hvp hvl hTl hT hTP hrr
    obtain ⟨T0, u0, hv0, hT0, t0, rfl⟩ := pk_at hps (k := 0) (by omega)
    obtain ⟨T1, u1, hv1, hT1, t1, rfl⟩ := pk_at hps (k := 1) (by omega)
    have hv0 : vq[Int.toNat 0]? = some (.ref T0) := hv0
    have hv1 : vq[Int.toNat 1]? = some (.ref T1) := hv1
    repeat walk_at "s"
    rename Fx _ _ _ _ _ _ _ _ => F
    refine take_use (n := n) (R'.less (by omega)) F hLa hIa hna (up0 hN28) (by omega) (.tail .head) (.tail .head) fun h₆ tk₆ t₆ F => ?_
    have hd1 := draw_rng ns (1 + 3 * N) (many := 3) (by omega)
    refine sub_t3 (F.isT .head) hd1.1 hd1.2 fun first tf => ?_
    clear hd1
    repeat walk_at "s"
    rename Fx _ _ _ _ _ _ _ _ => F
    refine take_use (n := n) (R'.less (by omega)) F hLa hIa hna (up1 hN28) (by omega) (.tail .head) (.tail .head) fun h₇ tk₇ t₇ F => ?_
    have hd1 := draw_rng ns (1 + 3 * N + 1) (many := (vq.length : Int) - 2) (by omega)
    repeat walk_at "s"
    rename Fx _ _ _ _ _ _ _ _ => F
    obtain ⟨cut, hcut⟩ : ∃ c : Nat, 2 + draw ns (1 + 3 * N + 1) ((vq.length : Int) - 2) = c := ⟨(2 + draw ns (1 + 3 * N + 1) ((vq.length : Int) - 2)).toNat, by omega⟩
    rw [hcut] at F
    have hcut2 : 2 ≤ cut ∧ cut < N := by omega
    clear hd1 hcut
    refine take_use (n := n) (R'.less (by omega)) F hLa hIa hna (up2 hN28) (by omega) (.tail .head) (.tail .head) fun h₇ tk₇ t₇ F => ?_
    have hd1 := draw_rng ns (1 + 3 * N + 1 + 1) (many := 9) (by omega)
    refine i_pow hd1.1 (by omega) fun _ _ => ?_
    generalize (10 : Int) ^ (draw ns (1 + 3 * N + 1 + 1) 9).toNat = mv
    clear hd1
    repeat walk_at "s"
    rename Fx _ _ _ _ _ _ _ _ => F
    obtain ⟨K, hK, hKe⟩ : ∃ K, K ≤ 40 ∧ 1 + 3 * N + 1 + 1 + 1 = K := ⟨_, up3 hN28, rfl⟩
    rw [hKe] at F
    clear hKe
    refine Fx.frzc F ?_
    rintro g₇ o₇ kg₇ _ _ F
    rw [hvq] at F
    obtain ⟨f1, f2, fo, LK⟩ := law_plain now mv first hpl hN6 hN9 hasc hlast htl hcut2.1 hcut2.2
    clear hasc hlast htl hT0 hT1 hv0 hv1
    have hp := hp.up kg₇
    have hps := hps.up kg₇
    have hLa := hLa.up kg₇
    have kg7 := kg6.trans kg₇
    clear kg6 kg₅ kg₆ k₄ kgg kg₁ kg₂ kg₃ hlg
    walk_at "x_comp"
    repeat walk_at "s"
    refine b_range fun rr hV tkV tr ur vr kV hrr => ?_
    have F := F.ext kV
    refine compA_s (fun i ys => IntsAre ys (((nums N).take i).filter fun n => (pk ps n).2.2)) (fun v => [("number", some v), ("packs", some (.ref p))]) R' F (src_r R'.handled hrr (Nat.lt_of_le_of_lt hN9 (by decide)) F.keep) (le9 hN9) (by walk_at "caps") .nil (fun i ys e hi => by rw [e.length]; exact Nat.le_trans (List.length_filter_le _ _) (Nat.le_trans (List.length_take_le _ _) (by omega))) ?turnC _ (fun D => by walk_at "put") ?finC (by decide +kernel) rfl rfl
    case turnC =>
      rintro C i v ys h₃ tk₃ hin ⟨t, rfl⟩ hOO k₃ G
      rw [nums_take N i hin, List.filter_append]
      obtain ⟨Tp, up, hvp, hTp, tp, rfl⟩ := pk_at hps (k := i) (by omega)
      have hpH := hp.up F.keep
      have hTpH := hTp.up F.keep
      repeat walk_at "s"
      refine Ways.of (fun hb => ?_) (fun hb => ?_)
      · repeat walk_at "s"
        exact PEnd.mk' (Sub.rfl' _) (by simp only [List.filter_cons, hb, if_true, List.filter_nil]; exact ints_snoc hOO)
      · exact PEnd.mk' (Sub.rfl' _) (by simpa only [List.filter_cons, hb, List.filter_nil, Bool.false_eq_true, if_false, List.append_nil] using hOO)
    case finC =>
      intro fc vc hW tkW hC hfc F
      rw [show (nums N).take N = nums N by rw [List.take_of_length_le (by simp [nums])]] at hC
      change IntsAre vc (cameD ps N) at hC
      refine Fx.frzc F ?_
      rintro g₈ o₈ kg₈ hfcL ⟨c₈, rfl⟩ F
      have hfcL : IsL g₈ fc vc := ⟨_, hfcL, rfl, c₈, rfl⟩
      have hcl : (cameD ps N).length ≤ 9 := Nat.le_trans (List.length_filter_le _ _) (by simp [nums]; omega)
      have hvc : vc.length = (cameD ps N).length := hC.length
      have hp := hp.up kg₈
      have hps := hps.up kg₈
      have hLa := hLa.up kg₈
      have kg8 := kg7.trans kg₈
      clear kg7 kg₇ hrr
      unfold earlyD at LK
      generalize cameD ps N = came at LK hC hcl hvc
      walk_at "x_comp"
      repeat walk_at "s"
      refine compA_s (fun i ys => IntsAre ys ((came.take i).filter fun n => decide (n < (cut : Int)))) (fun v => [("number", some v), ("cut", some (.int cut _))]) R' F (src_l R'.handled hfcL F.keep) (le9e hvc hcl) (by walk_at "caps") .nil (fun i ys e hi => by rw [e.length]; exact Nat.le_trans (List.length_filter_le _ _) (Nat.le_trans (List.length_take_le _ _) (by omega))) ?turnE _ (fun D => by walk_at "put") ?finE (by decide +kernel) rfl rfl
      case turnE =>
        rintro C i v ys h₃ tk₃ hin hv hOO k₃ G
        obtain ⟨k, hk⟩ : ∃ k, came[i]? = some k := ⟨came[i]'(hvc ▸ hin), List.getElem?_eq_getElem _⟩
        obtain ⟨t, ht'⟩ := hC.get i k hk
        rw [ht'] at hv; cases hv
        rw [List.take_add_one, hk, List.filter_append]
        repeat walk_at "s"
        refine Ways.dec (fun hb => ?_) (fun hb => ?_)
        · repeat walk_at "s"
          exact PEnd.mk' (Sub.rfl' _) (by simp only [Option.toList_some, List.filter_cons, hb, decide_true, if_true, List.filter_nil]; exact ints_snoc hOO)
        · exact PEnd.mk' (Sub.rfl' _) (by simpa only [Option.toList_some, List.filter_cons, hb, decide_false, List.filter_nil, Bool.false_eq_true, if_false, List.append_nil] using hOO)
      case finE =>
        intro fe ve hX tkX hE hfe F
        rw [hvc, List.take_length] at hE
        refine Fx.frzc F ?_
        rintro g₉ o₉ kg₉ hfeL ⟨c₉, rfl⟩ F
        have hfeL : IsL g₉ fe ve := ⟨_, hfeL, rfl, c₉, rfl⟩
        have hel : (came.filter fun n => decide (n < (cut : Int))).length ≤ 9 := Nat.le_trans (List.length_filter_le _ _) hcl
        generalize (came.filter fun n => decide (n < (cut : Int))) = early at LK hE hel
        have hve : ve.length = early.length := hE.length
        have hfcL := hfcL.up kg₉
        have hp := hp.up kg₉
        have hps := hps.up kg₉
        have hLa := hLa.up kg₉
        have kg9 := kg8.trans kg₉
        clear kg8 kg₈
        obtain ⟨Tc, uc, hvpc, hTc, tcc, rfl⟩ := pk_at' hps (k := (cut : Int) - 1) (by omega) (by omega)
        repeat walk_at "s"
        rename Fx _ _ _ _ _ _ _ _ => F
        refine b_addl F (F.isL .head) (F.isL (.tail (.tail .head))) (by rw [sizeLine_eq]; simp) fun aw hF F kF => ?_
        simp only [List.cons_append, List.nil_append] at F
        refine Fx.frzc F ?_
        rintro gA oA kgA hwL ⟨cA, rfl⟩ F
        refine Fx.frzc F ?_
        rintro gB oB kgB _ _ F
        refine Fx.frzc F ?_
        rintro gC oC kgC hT7 hT7' F
        refine Fx.frzc F ?_
        rintro gD oD kgD hw1 ⟨cD, rfl⟩ F
        refine Fx.frzc F ?_
        rintro gE oE kgE hT8 hT8' F
        have kAE := (((kgA.trans kgB).trans kgC).trans kgD).trans kgE
        have hwL : IsL gE aw _ := IsL.up (((kgB.trans kgC).trans kgD).trans kgE) ⟨_, hwL, rfl, cA, rfl⟩
        have hwW : IsL gE _ _ := IsL.up kgE ⟨_, hw1, rfl, cD, rfl⟩
        have hT7 := (hT7'.isT hT7).up (kgD.trans kgE)
        have hT8 := hT8'.isT hT8
        have hfcL := hfcL.up kAE
        have hfeL := hfeL.up kAE
        have hp := hp.up kAE
        have hps := hps.up kAE
        have hLa := hLa.up kAE
        have kgE' := kg9.trans kAE
        obtain ⟨rA, hrA⟩ := LK.runA
        obtain ⟨rO, hrO⟩ := LK.runO
        obtain ⟨rL, hrL⟩ := LK.runL
        have hlkA : Looks' gE [(cut, early, (pk ps ((cut : Int) - 1)).1 + 140), (N, came, now + 1000)] _ := .cons ⟨_, _, _, _, _, rfl, hT7, hfeL, hE⟩ (.cons ⟨_, _, _, _, _, rfl, hT8, hfcL, hC⟩ .nil)
        have hlkO : Looks' gE [(N, came, now + 1000)] _ := .cons ⟨_, _, _, _, _, rfl, hT8, hfcL, hC⟩ .nil
        clear hT7 hT8 hT7' hT8' kAE kgA kgB kgC kgD kgE kg9 kg₉ hvpc hTc kF
        repeat walk_at "s"
        refine Post.use (law_run_ct (n := n) (R'.less (by omega)) F.wdh (hp.up F.keep) (hps.up F.keep) (hwL.up F.keep) (hlkA.up F.keep) (by omega) (by simp) (by
          intro lk hlk
          simp only [List.mem_cons, List.not_mem_nil, or_false] at hlk
          rcases hlk with rfl | rfl
          · exact ⟨by show cut ≤ _; omega, hel⟩
          · exact ⟨by show N ≤ _; omega, hcl⟩)) fun v hG tkG kG eG => ?_
        unfold RunP at eG
        rw [hrA] at eG
        obtain ⟨DA, vA, rfl, hDAn, hDA, hFA⟩ := eG
        refine Fx.refrc F kG.sub ?_
        intro g1 kg1 F fr1
        have hDA : IsL g1 DA vA := let ⟨o, e, r⟩ := hDA; ⟨o, fr1 _ _ hDAn e, r⟩
        have hFA := hFA.froz fr1
        have hlO : ∀ lk ∈ [(N, came, now + 1000)], lk.1 ≤ ps.length ∧ lk.2.1.length ≤ 9 := by
          intro lk hlk
          simp only [List.mem_cons, List.not_mem_nil, or_false] at hlk
          subst hlk
          exact ⟨by show N ≤ _; omega, hcl⟩
        have hp := hp.up kg1
        have hps := hps.up kg1
        have hwW := hwW.up kg1
        have hlkO := hlkO.up kg1
        clear hlkA hwL
        repeat walk_at "s"
        rename Fx _ _ _ _ _ _ _ _ => F
        refine Post.use (law_run_ct (n := n) (R'.less (by omega)) F.wdh (hp.up F.keep) (hps.up F.keep) (hwW.up F.keep) (hlkO.up F.keep) (by omega) (by simp) hlO) fun v hG tkG kG eG => ?_
        unfold RunP at eG
        rw [hrO] at eG
        obtain ⟨DO, vO, rfl, hDOn, hDO, hFO⟩ := eG
        refine Fx.refrc F kG.sub ?_
        intro g2 kg2 F fr2
        have hDO : IsL g2 DO vO := let ⟨o, e, r⟩ := hDO; ⟨o, fr2 _ _ hDOn e, r⟩
        have hFO := hFO.froz fr2
        have hp := hp.up kg2
        have hps := hps.up kg2
        have hwW := hwW.up kg2
        have hlkO := hlkO.up kg2
        repeat walk_at "s"
        rename Fx _ _ _ _ _ _ _ _ => F
        refine Post.use (law_run_ct (n := n) (R'.less (by omega)) F.wdh (hp.up F.keep) (hps.up F.keep) (hwW.up F.keep) (hlkO.up F.keep) (by omega) (by simp) hlO) fun v hG tkG kG eG => ?_
        unfold RunP at eG
        rw [hrL] at eG
        obtain ⟨DL, vL, rfl, hDLn, hDL, hFL⟩ := eG
        refine Fx.refrc F kG.sub ?_
        intro g3 kg3 F fr3
        have hDL : IsL g3 DL vL := let ⟨o, e, r⟩ := hDL; ⟨o, fr3 _ _ hDLn e, r⟩
        have hFL := hFL.froz fr3
        have kg13 := (kg1.trans kg2).trans kg3
        have hDA := hDA.up (kg2.trans kg3)
        have hFA := hFA.up (kg2.trans kg3)
        have hDO := hDO.up kg3
        have hFO := hFO.up kg3
        have hLa := hLa.up kg13
        have hfcL := hfcL.up kg13
        have hfeL := hfeL.up kg13
        have kg3' := kgE'.trans kg13
        clear hlkO hwW hp hps hlO hrA hrO hrL fr1 fr2 fr3 kg1 kg2 kg13 hDAn hDOn hDLn kgE'
        repeat walk_at "s"
        repeat first | walk_at "s" | refine Ways.no rfl ?_
        rename Fx _ _ _ _ _ _ _ _ => F
        refine Fx.frzc F ?_
        rintro g4 o4 kg4 hT3 hT3' F
        have F := Fx.pull1 F
        refine Fx.frzc F ?_
        rintro g5 o5 kg5 _ _ F
        have hT3 := (hT3'.isT hT3).up kg5
        have kg35 := kg4.trans kg5
        have hDA := hDA.up kg35
        have hFA := hFA.up kg35
        have hDO := hDO.up kg35
        have hFO := hFO.up kg35
        have hDL := hDL.up kg35
        have hFL := hFL.up kg35
        have hLa := hLa.up kg35
        have hfcL := hfcL.up kg35
        have hfeL := hfeL.up kg35
        have kg5' := kg3'.trans kg35
        clear kg3' kg35 kg4 kg5 kg3
        have hvA : vA.length = 2 := (Paired.length hFA).symm
        have hvO : vO.length = 1 := (Paired.length hFO).symm
        obtain ⟨W1, hW1⟩ : ∃ W, widest early first f1.1 = W := ⟨_, rfl⟩
        obtain ⟨W2, hW2⟩ : ∃ W, widest came first f2.1 = W := ⟨_, rfl⟩
        obtain ⟨W3, hW3⟩ : ∃ W, widest came first fo.1 = W := ⟨_, rfl⟩
        have key : ∀ (i : Nat) (x : Value), [Value.ref fe, Value.ref fc, Value.ref fc][i]? = some x → ∃ a va ld f, x = .ref a ∧ IsL g5 a va ∧ IntsAre va ld ∧ ld.length ≤ 9 ∧ ([f1, f2] ++ [fo])[i]? = some f ∧ FoundOk f ∧ just f.2 first (widest ld first f.1) f.1 = true ∧
            [W1, W2, W3].take (i + 1) = [W1, W2, W3].take i ++ [widest ld first f.1] ∧ i ≤ 3
          | 0, x, h => by cases h; exact ⟨fe, ve, early, f1, rfl, hfeL, hE, hel, rfl, LK.k1, LK.j1, by rw [hW1]; rfl, by omega⟩
          | 1, x, h => by cases h; exact ⟨fc, vc, came, f2, rfl, hfcL, hC, hcl, rfl, LK.k2, LK.j2, by rw [hW2]; rfl, by omega⟩
          | 2, x, h => by cases h; exact ⟨fc, vc, came, fo, rfl, hfcL, hC, hcl, rfl, LK.ko, LK.jo, by rw [hW3]; rfl, by omega⟩
          | n + 3, x, h => by cases h
        refine forEnum (EnumJ l b p a₂ fc fe DA DO DL now first mv W1 W2 W3 K t tf v1 v2)
          R'.handled F hT3 ⟨_, [], _, _, _, _, _, _, _, _, .nil, rfl, rfl⟩ ?turnN ?doneN
        case turnN =>
          rintro i T ti x g6 V6 M6 h6 tk6 e oe it oi hx ⟨wd, ws, w1, w2, w3, tmv, v3, v4, v5, v6, hws, rfl, rfl⟩ k6 hT F
          obtain ⟨a, va, ld, f, rfl, hla, hld, hll, hf, hfk, hj, hw, hi3⟩ := key i x hx
          have hla := hla.up k6
          have hDA := hDA.up k6
          have hDO := hDO.up k6
          obtain ⟨y, hy, TF, fa, fb, vfa, vfb, rfl, hTF, hfaL, hfaP, hfbL, hfbI⟩ := paired_at (Paired.append (hFA.up k6) (hFO.up k6)) i f hf
          have hy : (vA ++ vO)[((i : Nat) : Int).toNat]? = some (.ref TF) := by simpa using hy
          have hwsl : ws.length = i := by rw [hws.length, List.length_take]; show min i 3 = i; omega
          repeat walk_at "s"
          rename Fx _ _ _ _ _ _ _ _ => F
          refine b_addl F (hDA.up F.keep) (hDO.up F.keep) (by rw [sizeLine_eq]; omega) fun aw hF F kF => ?_
          repeat walk_at "s"
          rename Fx _ _ _ _ _ _ _ _ => F
          have hfkl := hfk.len
          have hfkb := hfk.bl
          refine Post.use (law_widest_ct (n := n) (R'.less (by omega)) F.wdh (hfaL.up F.keep) (hfaP.up F.keep) (by omega) (hla.up F.keep) hld (by omega)) fun v h7 tk7 k7 e7 => ?_
          obtain ⟨tw, rfl⟩ := e7
          have F := F.ext k7.sub
          have hwi : (ws ++ [Value.int (widest ld first f.1) tw])[((i : Nat) : Int).toNat]? = some (.int (widest ld first f.1) tw) := by
            rw [Int.toNat_natCast, List.getElem?_append_right (by omega), hwsl]; simp
          repeat walk_at "s"
          rename Fx _ _ _ _ _ _ _ _ => F
          refine Post.use (law_is_just_ct (n := n) (R'.less (by omega)) F.wdh (hfaL.up F.keep) (hfaP.up F.keep) (by omega) hfk.asc (hfbL.up F.keep) hfbI (by omega)) fun v h8 tk8 k8 e8 => ?_
          rw [hj] at e8
          subst e8
          have F := F.ext k8.sub
          repeat first | walk_at "s" | refine Ways.no rfl ?_
          rename Fx _ _ _ _ _ _ _ _ => F
          refine Fx.frzc F ?_
          rintro g7 o7 kg7 _ _ F
          refine TurnE.nxt F kg7 ⟨_, rfl, wd, _, _, _, _, _, _, _, _, _, ?_, rfl, rfl⟩
          rw [hw]
          exact ints_snoc hws
        case doneN =>
          rintro g6 V6 M6 h6 tk6 ⟨wd, ws, w1, w2, w3, tmv, v3, v4, v5, v6, hws, rfl, rfl⟩ k6 F
          obtain ⟨tA, tB, tC, rfl⟩ := ints3 (show IntsAre ws [W1, W2, W3] from hws)
          have hDL := hDL.up k6
          have hDO := hDO.up k6
          have hFO := hFO.up k6
          have hFL := hFL.up k6
          have hLa := hLa.up k6
          have hfcL := hfcL.up k6
          have kg6' := kg5'.trans k6
          obtain ⟨_, hyO, TO, faO, fbO, vaO, vbO, rfl, hTO, hfaO, hfaPO, hfbO, hfbIO⟩ := paired_at hFO 0 fo rfl
          obtain ⟨_, hyL, TL, faL, fbL, vaL, vbL, rfl, hTL, hfaL, hfaPL, hfbL, hfbIL⟩ := paired_at hFL 0 _ rfl
          have hyO : vO[Int.toNat 0]? = some (.ref TO) := hyO
          have hyL : vL[Int.toNat 0]? = some (.ref TL) := hyL
          have hlen := LK.ko.len
          have hw1 := LK.w1
          have hw2 := LK.w2
          have hjl := LK.jl
          rw [hW1, hW3] at hw1
          rw [hW2, hW3] at hw2
          rw [hW3] at hjl
          have hbl := LK.ko.bl
          have hasc := LK.ko.asc
          replace hfbIO : IntsAre vbO fo.2 := hfbIO
          replace hfaPO : Tups PrG fo.1 vaO g6 := hfaPO
          replace hfaPL : Tups PrG (shiftD mv fo.1) vaL g6 := hfaPL
          have hvaO : vaO.length = fo.1.length := (Paired.length hfaPO).symm
          have hvbO : vbO.length = fo.2.length := hfbIO.length
          have hFL' := hFL
          clear key hFA hFO hDA hT3 hws hfbIL hFL
          repeat walk_at "s"
          rename Fx _ _ _ _ _ _ _ _ => F
          refine b_max3 R' F (F.isL .head) hw1 hw2 fun h7 t7 tk7 k7 F => ?_
          repeat walk_at "s"
          refine Ways.no (by simp) ?_
          repeat walk_at "s"
          walk_at "e_comp"
          repeat walk_at "s"
          rename Fx _ _ _ _ _ _ _ _ => F
          refine compE_tp (fun i => shiftD mv (fo.1.take i)) PrG (fun a b => [("number", some a), ("time", some b), ("move", some (.int mv tmv))]) (fun i a b => ∃ d t u, fo.1[i]? = some d ∧ a = .int d.1 t ∧ b = .int d.2 u) R' F (src_l R'.handled hfaO F.keep) (le9e hvaO hlen) ?hPP (by intro v v'; repeat' (first | exact List.forall_mem_nil _ | (refine List.forall_mem_cons.mpr ⟨?_, ?_⟩; (first | exact .inl rfl | exact .inr (.inl rfl) | exact .inr (.inr ⟨rfl, _, rfl, rfl, rfl, At.mem (by walk_at "at")⟩))))) rfl (fun i _ => by unfold shiftD; rw [List.length_map]; exact Nat.le_trans (List.length_take_le' _ _) (le9 hlen)) ?turnS ?finS (by decide +kernel) rfl rfl rfl (by decide)
          case hPP =>
            intro i v hv
            obtain ⟨d, T, us, hd, rfl, hT, t, u, rfl⟩ := Tups.get hfaPO i v hv
            exact ⟨T, _, _, rfl, hT.up F.keep, d, t, u, hd, rfl, rfl⟩
          case turnS =>
            rintro C i _ _ ys X h₃ tk₃ hin ⟨d, t', u', hd, rfl, rfl⟩ hOO k₃ hX G
            have e1 : shiftD mv (fo.1.take (i + 1)) = shiftD mv (fo.1.take i) ++ [(d.1, d.2 + mv)] := by
              unfold shiftD; rw [List.take_add_one, hd, List.map_append]; rfl
            rw [e1]
            repeat walk_at "s"
            refine n_tupR (by simp [sizeLine_eq]) fun a h₆ k₆ ha hT₆ => ?_
            refine PEnd.mk' k₆ ?_
            refine (hOO.sub k₆).add (fun hm => ?_) (none_back k₃ ha) hT₆ ⟨_, _, rfl⟩
            have := hX a hm
            rw [ha] at this; cases this
          case finS =>
            intro fs vs hX tkX gX hSh kgX kX hfs F
            rw [hvaO, List.take_length] at hSh
            have hSh := hSh.tups
            have hDL := hDL.up kgX
            have hfaPL := hfaPL.up kgX
            have hfaPO := hfaPO.up kgX
            have hLa := hLa.up kgX
            have hfcL := hfcL.up kgX
            have hfaO : IsL gX faO vaO := hfaO.up kgX
            have hfbO : IsL gX fbO vbO := hfbO.up kgX
            have hfaL : IsL gX faL vaL := hfaL.up kgX
            have hTL := hTL.up kgX
            have hFL : Founds gX _ vL := hFL'.up kgX
            have kgX' := kg6'.trans kgX
            repeat walk_at "s"
            rename Fx _ _ _ _ _ _ _ _ => F
            refine ne_founds R' (hDL.up F.keep) (hFL.up F.keep) (F.isL .head) (.cons ⟨_, fs, fbO, vs, vbO, rfl, F.isT (.tail .head), F.isL (.tail (.tail .head)), hSh.up F.keep, hfbO.up F.keep, hfbIO⟩ .nil) ?_
            refine Fx.frzc F ?_
            rintro gY oY kgY _ _ F
            refine Fx.frzc F ?_
            rintro gZ oZ kgZ _ _ F
            refine Fx.frzc F ?_
            rintro g' o' kg' _ _ F
            have kXg := (kgY.trans kgZ).trans kg'
            have hDL := hDL.up kXg
            have hfaPL := hfaPL.up kXg
            have hfaPO := hfaPO.up kXg
            have hLa := hLa.up kXg
            have hfcL := hfcL.up kXg
            have hfaO := hfaO.up kXg
            have hfbO := hfbO.up kXg
            have hfaL := hfaL.up kXg
            have hTL := hTL.up kXg
            have kgo := kgX'.trans kXg
            have hvlL : (shiftD mv fo.1).length ≤ 9 := by simp [shiftD]; exact hlen
            have hascL : (shiftD mv fo.1).Pairwise fun a b => a.1 < b.1 := by unfold shiftD; exact List.pairwise_map.mpr hasc
            clear hSh hFL kgX' kXg kgY kgZ kg'
            repeat first | walk_at "s" | refine Ways.no rfl ?_
            rename Fx _ _ _ _ _ _ _ _ => F
            refine Post.use (law_is_just_ct (n := n) (R'.less (by omega)) F.wdh (hfaL.up F.keep) (hfaPL.up F.keep) (by omega) hascL (hfbO.up F.keep) hfbIO (by omega)) fun v h8 tk8 k8 e8 => ?_
            rw [hjl] at e8
            subst e8
            have F := F.ext k8.sub
            repeat first | walk_at "s" | refine Ways.no rfl ?_
            rename Fx _ _ _ _ _ _ _ _ => F
            refine eq_pairs_nil R' (hfaO.up F.keep) (hfaPO.up F.keep) (F.isL .head) ?_
            refine Fx.frzc F ?_
            rintro g' o' kg' _ _ F
            have hfaPO := hfaPO.up kg'
            have hLa := hLa.up kg'
            have hfcL := hfcL.up kg'
            have hfaO : IsL g' faO vaO := hfaO.up kg'
            have hfbO : IsL g' fbO vbO := hfbO.up kg'
            have kgo := kgo.trans kg'
            repeat walk_at "s"
            refine Ways.dec (fun h0 => ?_) (fun h0 => ?_)
            · repeat walk_at "s"
              refine Post.mk' (F.toRd.but fun b o n e => kgo _ _ (hg b o n e)) ?_
              rfl
            · have hpos := List.length_pos_iff.mpr h0
              repeat walk_at "s"
              rename Fx _ _ _ _ _ _ _ _ => F
              refine take_use (n := n) (R'.less (by omega)) F hLa hIa hna (Nat.le_trans hK (by decide)) (by omega) (.tail .head) (.tail .head) fun h₉ tk₉ t₉ F => ?_
              have hd1 := draw_rng ns (K) (many := (vaO.length : Int)) (by omega)
              obtain ⟨k, hk⟩ : ∃ k : Nat, draw ns (K) (vaO.length : Int) = k := ⟨(draw ns (K) (vaO.length : Int)).toNat, by omega⟩
              rw [hk] at hd1 ⊢
              obtain ⟨q, hq⟩ : ∃ q, fo.1[k]? = some q := ⟨fo.1[k]'(by omega), List.getElem?_eq_getElem _⟩
              obtain ⟨_, hyk, Tk, uk, rfl, hTk, tk1, tk2, rfl⟩ := paired_at hfaPO k q hq
              have hyk : vaO[((k : Nat) : Int).toNat]? = some (.ref Tk) := hyk
              repeat walk_at "s"
              rename Fx _ _ _ _ _ _ _ _ => F
              refine slc F (hfaO.up F.keep) (by rw [sizeLine_eq]; omega) .none (.int _ _) .none (by decide) pick_up fun aS hS F hSn kS => ?_
              repeat walk_at "s"
              refine slc F (hfaO.up F.keep) (by rw [sizeLine_eq]; omega) (.int _ _) .none .none (by decide) pick_fr fun aS2 hS2 F hSn2 kS2 => ?_
              refine b_addl F (F.isL (.tail .head)) (F.isL .head) (by rw [sizeLine_eq, ← List.length_append]; exact Nat.le_trans (List.Sublist.length_le (by rw [← List.eraseIdx_eq_take_drop_succ]; exact List.eraseIdx_sublist _ _)) (Nat.le_trans (Nat.le_of_eq hvaO) (Nat.le_trans hlen (by decide)))) fun ar hr F kr => ?_
              repeat walk_at "s"
              rename Fx _ _ _ _ _ _ _ _ => F
              refine Fx.frzc F ?_
              rintro g1 o1 kg1 _ _ F
              refine Fx.frzc F ?_
              rintro g2 o2 kg2 hm2 hm2' F
              refine Fx.frzc F ?_
              rintro g3 o3 kg3 hr3 hr3' F
              have hmore := (hm2'.isL hm2).up kg3
              have har := hr3'.isL hr3
              have kg13 := (kg1.trans kg2).trans kg3
              have hrest : Tups PrG (fo.1.take k ++ fo.1.drop (k + 1)) (vaO.take k ++ vaO.drop (k + 1)) g3 := Paired.append (Paired.take (hfaPO.up kg13) k) (Paired.drop (hfaPO.up kg13) (k + 1))
              have hrl : (fo.1.take k ++ fo.1.drop (k + 1)).length ≤ 9 := Nat.le_trans rest_sub.length_le hlen
              have hra : (fo.1.take k ++ fo.1.drop (k + 1)).Pairwise fun a b => a.1 < b.1 := by
                rw [← List.eraseIdx_eq_take_drop_succ]; exact hasc.sublist (List.eraseIdx_sublist _ _)
              have hwr := LK.wr k q hq
              rw [hW3] at hwr
              have hjr := LK.jr k q hq
              have hfcL := hfcL.up kg13
              have hfbO : IsL g3 fbO vbO := hfbO.up kg13
              have kgo := kgo.trans kg13
              generalize fo.1.take k ++ fo.1.drop (k + 1) = rest at hrest hrl hra hwr hjr
              refine b_addl F (hfcL.up F.keep) (hmore.up F.keep) (by rw [sizeLine_eq]; simp; omega) fun ac hc F kc => ?_
              repeat walk_at "s"
              refine Post.use (law_widest_ct (n := n) (R'.less (by omega)) F.wdh (har.up F.keep) (hrest.up F.keep) (by omega) (F.isL .head) (ints_snoc hC) (by simp; omega)) fun v h7 tk7 k7 e7 => ?_
              obtain ⟨tw, rfl⟩ := e7
              have F := F.ext k7.sub
              repeat walk_at "s"
              refine Ways.yes (decide_eq_true hwr) ?_
              repeat walk_at "s"
              rename Fx _ _ _ _ _ _ _ _ => F
              refine b_addl F (hfbO.up F.keep) (hmore.up F.keep) (by rw [sizeLine_eq]; simp; omega) fun ab hb F kb => ?_
              repeat walk_at "s"
              refine Post.use (law_is_just_ct (n := n) (R'.less (by omega)) F.wdh (har.up F.keep) (hrest.up F.keep) (by omega) hra (F.isL .head) (ints_snoc hfbIO) (by simp; omega)) fun v h8 tk8 k8 e8 => ?_
              rw [hjr] at e8
              subst e8
              have F := F.ext k8.sub
              repeat walk_at "s"
              refine Post.mk' (F.toRd.but fun b o n e => kgo _ _ (hg b o n e)) ?_
              rfl
end
end PC19
end Mine
end PC
open PySem PySem.W PyProof.Rows PySem.Calls
set_option Elab.async false
set_option linter.unusedVariables false
set_option maxRecDepth 100000
set_option maxHeartbeats 8000000
namespace Mine
theorem room0 : Room (0 + 16) callerA := ⟨rfl, by decide, by decide⟩
theorem glob_law {w : World} {mg mb : Str → Option Value} {h : Heap} (W : Wd w mg mb h) : mg "law" = some (.ref 289) := by
  refine mg_of W.K W.T.g ?_
  kernel_rfl
theorem good_end {s₀ s₁ s' : Shared} {ns : List Int} {v : Value} (hg : s₁.gens = #[]) (p : Post s₁ s₁.heap [] (fun v h' => v = .bool true) v s') :
    GoodWG PySem.Challenge.rw_tk0098_01.row.claim (classAt s₀.heap) (ExcName.means s₀.heap) [ofPy (PyData.list (ns.map PyData.int))] s₁ (.ok (.ret v)) s' := by
  obtain ⟨h', tk', rfl, k, rfl⟩ := p
  refine ⟨.inl ⟨.bool true, .bool true, [], rfl, fun _ => ?_, .bool true, ?_, fun _ => ⟨.nil, by simp⟩⟩, .of_keep k.sub, rfl, ?_⟩
  · rfl
  · show (WShape.has [] (.bool true) .bool && WTm.holds [] (.eq .res (.lit (.bool true))) { args := _, res := some (.bool true), after := _ }) = true
    simp [WShape.has, WTm.holds, WTm.value, W.same, WShape.arms]
  · exact AllBare.of_eq hg
end Mine
theorem PySem.Challenge.cw_tk0098_01_holds : PySem.Challenge.rw_tk0098_01.Holds := by
  refine Mine.hd ?_
  w_strict (k_fill; intro w s₀ s₁ mg mb G Y fa o pm cd doc dV kV ho hd' hcd hD hmg hg args vals as hpre hlay hrd hwl hlo; have KX := kIn_of Y; refine Ground.open G ?_; intro T B D TE TW; wrow_args hpre hlay hrd hwl hlo; all_goals (first | refine callC_kw (enter_call ?_) | refine enter_call ?_))
  rename (PyProof.Rows.IntsAre _ _) => hI
  rename (Heap.IsList _ _ _) => hL
  rename (¬ _ < _) => hlen
  rename (Top _ _ _ _ _ _) => T
  rename ((Mine.hd.heap_1 _).In _) => KX
  rename (_ = some (Value.ref _)) => hmg
  rename (Shared.gens _ = #[]) => hg
  have W : Mine.Wd _ _ _ _ := ⟨KX, topRead_of T⟩
  have e := hmg.symm.trans (Mine.glob_law W)
  cases e
  exact Mine.law_ct (s := s₁) (h := s₁.heap) (tk := s₁.toks) (fun v s' p => Mine.good_end hg p) Mine.room0 W hL hI (by omega)
