import PyProof.Rows.All
import Wide.All
import OpenK.AllK
import Wide.FinOn
import PySem.Challenge.RW_nm0144_01
open PySem PySem.W PyProof.Rows
set_option Elab.async false
set_option maxRecDepth 100000
set_option linter.all false
set_option compiler.extract_closed false
set_option bootstrap.genMatcherCode false
set_option genSizeOf false
open PySem.SeqAt

-- MBase
namespace Mine
theorem hide0 {G : Prop} (h : ∀ X : Prop, (G → X) → X) : G := h G id
@[elab_as_elim] theorem hide1 {α : Sort _} {motive : α → Prop} (a : α) (h : ∀ X : α → Prop, (∀ a, motive a → X a) → X a) : motive a := h motive fun _ h => h
@[elab_as_elim] theorem hide2 {α β : Sort _} {motive : α → β → Prop} (a : α) (b : β) (h : ∀ X : α → β → Prop, (∀ a b, motive a b → X a b) → X a b) : motive a b := h motive fun _ _ h => h
@[elab_as_elim] theorem hide3 {α β γ : Sort _} {motive : α → β → γ → Prop} (a : α) (b : β) (c : γ) (h : ∀ X : α → β → γ → Prop, (∀ a b c, motive a b c → X a b c) → X a b c) : motive a b c := h motive fun _ _ _ h => h
@[elab_as_elim] theorem hide4 {α β γ δ : Sort _} {motive : α → β → γ → δ → Prop} (a : α) (b : β) (c : γ) (d : δ) (h : ∀ X : α → β → γ → δ → Prop, (∀ a b c d, motive a b c d → X a b c d) → X a b c d) : motive a b c d := h motive fun _ _ _ _ h => h
@[elab_as_elim] theorem hide5 {α β γ δ ε : Sort _} {motive : α → β → γ → δ → ε → Prop} (a : α) (b : β) (c : γ) (d : δ) (e : ε) (h : ∀ X : α → β → γ → δ → ε → Prop, (∀ a b c d e, motive a b c d e → X a b c d e) → X a b c d e) : motive a b c d e := h motive fun _ _ _ _ _ h => h
theorem le_lit {a k d : Nat} (h : Nat.ble a k = true) : a ≤ d + k := Nat.le_trans (Nat.le_of_ble_eq_true h) (Nat.le_add_left k d)
theorem le_ad {a b d : Nat} (h : Nat.ble a b = true) : d + a ≤ d + b := Nat.add_le_add_left (Nat.le_of_ble_eq_true h) d

noncomputable abbrev Vis := Addr → Option Obj
noncomputable abbrev Led := List (Addr × Obj)
inductive Slot where
  | loc (v : Option Value)
  | cell (c : Addr) (v : Option Value)
  | ro (c : Addr) (v : Value)
noncomputable abbrev Loc := List (Str × Slot)
noncomputable def locOf : Loc → Str → Option Value
  | [], _ => none
  | (y, .loc v) :: r, x => if x = y then v else locOf r x
  | (y, .cell _ _) :: r, x => if x = y then none else locOf r x
  | (y, .ro _ _) :: r, x => if x = y then none else locOf r x
noncomputable def cellsOf : Loc → List Addr
  | [] => []
  | (_, .cell c _) :: r => c :: cellsOf r
  | _ :: r => cellsOf r
noncomputable def names (m : Loc) : List Str := m.map (·.1)
/-- the value that a name has -/
inductive At : Loc → Str → Value → Prop
  | loc {x v r} : At ((x, .loc (some v)) :: r) x v
  | cell {x c v r} : At ((x, .cell c (some v)) :: r) x v
  | ro {x c v r} : At ((x, .ro c v) :: r) x v
  | tl {x v p r} : At r x v → At (p :: r) x v
/-- a name is set -/
inductive Set : Str → Value → Loc → Loc → Prop
  | loc {x v u r} : Set x v ((x, .loc u) :: r) ((x, .loc (some v)) :: r)
  | cell {x v c u r} : Set x v ((x, .cell c u) :: r) ((x, .cell c (some v)) :: r)
  | tl {x v p r r'} : Set x v r r' → Set x v (p :: r) (p :: r')

noncomputable def Sub (g : Vis) (h : Heap) : Prop := ∀ a o, g a = some o → h.get? a = some o
noncomputable def VSub (g g' : Vis) : Prop := ∀ a o, g a = some o → g' a = some o
theorem VSub.refl (g : Vis) : VSub g g := fun _ _ e => e
theorem VSub.trans {a b c : Vis} (x : VSub a b) (y : VSub b c) : VSub a c := fun _ _ e => y _ _ (x _ _ e)
noncomputable def Vis.put (g : Vis) (a : Addr) (o : Obj) : Vis := fun b => if b = a then some o else g b

structure Fx where
  env : Env
  h₀ : Heap
  g₀ : Vis
  n₀ : Nat

structure Glb (G0 : Heap) (gls : List (Str × Value)) : Prop where
  ex : ∃ mg mb, G0.Ns mainGlobals mg ∧ G0.Ns builtinsNs mb ∧ ∀ p ∈ gls, mg p.1 = some p.2 ∨ (mg p.1 = none ∧ mb p.1 = some p.2)

noncomputable def slotOk (env : Env) (p : Str × Slot) : Prop := (p.1 == ("__debug__" : Str)) = false ∧ match p.2 with
  | .loc _ => env.kindOf p.1 = some .local
  | .cell c _ => env.kindOf p.1 = some .cell ∧ env.cells.lookup p.1 = some c
  | .ro c _ => (env.kindOf p.1 = some .cell ∨ (env.kindOf p.1 = some .free ∧ (p.1 == ("__classdict__" : Str)) = false)) ∧ env.cells.lookup p.1 = some c

structure EnvOk (gls : List (Str × Value)) (env : Env) (m : Loc) : Prop where
  fn : env.scope.kind = .function
  gl : env.globals = mainGlobals
  bl : env.builtins = builtinsNs
  slots : ∀ p ∈ m, slotOk env p
  glob : ∀ p ∈ gls, env.kindOf p.1 = some .globalImplicit ∧ (p.1 == ("__debug__" : Str)) = false

noncomputable abbrev owns (L : Addr) (m : Loc) (news : Led) : List Addr := L :: (cellsOf m ++ news.map (·.1))

structure St (G0 : Heap) (gls : List (Str × Value)) (x : Fx) (g : Vis) (m : Loc) (news : Led) (h : Heap) : Prop where
  ok : EnvOk gls x.env m
  gb : Glb G0 gls
  nd : (names m).Nodup
  dj : (owns x.env.locals m news).Nodup
  hn : ∀ a ∈ owns x.env.locals m news, x.h₀.get? a = none ∧ g a = none
  ns : h.Ns x.env.locals (locOf m)
  cl : ∀ nm c v, (nm, Slot.cell c v) ∈ m → h.IsCell c v
  ob : ∀ p ∈ news, h.get? p.1 = some p.2
  ro : ∀ nm c v, (nm, Slot.ro c v) ∈ m → x.h₀.IsCell c (some v)
  keep : ∀ b o, x.h₀.get? b = some o → h.get? b = some o
  sub : Sub g h
  base : ∀ b o, G0.get? b = some o → x.h₀.get? b = some o
  up : VSub x.g₀ g
  ext : ∀ a o, g a = some o → x.g₀ a = some o ∨ x.n₀ ≤ a
  ln : x.n₀ ≤ x.env.locals
  gg : ∀ b o, G0.get? b = some o → x.g₀ b = some o

section facts
variable {G0 : Heap} {gls : List (Str × Value)} {x : Fx} {g : Vis} {m m' : Loc} {news : Led} {h h' : Heap}

theorem cells_mem {m : Loc} {nm : Str} {c : Addr} {v : Option Value} (hm : (nm, Slot.cell c v) ∈ m) : c ∈ cellsOf m := by
  induction m with
  | nil => cases hm
  | cons p r ih =>
    obtain ⟨y, sl⟩ := p
    rcases List.mem_cons.mp hm with e | e
    · cases e; exact .head _
    · cases sl <;> simp [cellsOf, ih e]
theorem St.sz (S : St G0 gls x g m news h) : x.n₀ ≤ h.objs.size := Nat.le_trans S.ln (Nat.le_of_lt S.ns.lt)
theorem St.lt (S : St G0 gls x g m news h) : ∀ a ∈ owns x.env.locals m news, a < h.objs.size := by
  intro a ha
  rcases List.mem_cons.mp ha with rfl | ha
  · exact S.ns.lt
  · rcases List.mem_append.mp ha with ha | ha
    · have key : ∀ m' : Loc, (∀ nm c v, (nm, Slot.cell c v) ∈ m' → h.IsCell c v) → a ∈ cellsOf m' → a < h.objs.size := by
        intro m'
        induction m' with
        | nil => intro _ q; cases q
        | cons p r ih =>
          obtain ⟨y, sl⟩ := p
          intro hc q
          cases sl with
          | cell c v =>
            rcases List.mem_cons.mp q with rfl | q
            · exact (hc y a v (.head _)).lt
            · exact ih (fun nm c v e => hc nm c v (.tail _ e)) q
          | loc v => exact ih (fun nm c v e => hc nm c v (.tail _ e)) q
          | ro c v => exact ih (fun nm c v e => hc nm c v (.tail _ e)) q
      exact key m S.cl ha
    · obtain ⟨p, hp, rfl⟩ := List.mem_map.mp ha
      exact Heap.lt_size (S.ob p hp)

theorem at_spec {env : Env} (S : ∀ p ∈ m, slotOk env p) (nd : (names m).Nodup) {nm : Str} {v : Value} (a : At m nm v) :
    (env.kindOf nm = some .local ∧ locOf m nm = some v) ∨ (∃ c, env.kindOf nm = some .cell ∧ env.cells.lookup nm = some c ∧ (nm, Slot.cell c (some v)) ∈ m) ∨
      (∃ c, (env.kindOf nm = some .cell ∨ (env.kindOf nm = some .free ∧ (nm == ("__classdict__" : Str)) = false)) ∧ env.cells.lookup nm = some c ∧ (nm, Slot.ro c v) ∈ m) := by
  induction a with
  | @loc x v r => exact .inl ⟨(S _ (.head _)).2, by simp [locOf]⟩
  | @cell x c v r => exact .inr (.inl ⟨c, (S _ (.head _)).2.1, (S _ (.head _)).2.2, .head _⟩)
  | @ro x c v r => exact .inr (.inr ⟨c, (S _ (.head _)).2.1, (S _ (.head _)).2.2, .head _⟩)
  | @tl x v p r a ih =>
    have hx : x ∈ names r := by
      clear ih S nd
      induction a with
      | loc => exact .head _
      | cell => exact .head _
      | ro => exact .head _
      | tl _ ih => exact .tail _ ih
    have nd' : (p.1 :: names r).Nodup := nd
    have ne : x ≠ p.1 := fun e => (List.nodup_cons.mp nd').1 (e ▸ hx)
    rcases ih (fun q hq => S q (.tail _ hq)) (List.nodup_cons.mp nd').2 with ⟨a1, a2⟩ | ⟨c, a1, a2, a3⟩ | ⟨c, a1, a2, a3⟩
    · refine .inl ⟨a1, ?_⟩
      obtain ⟨y, sl⟩ := p
      cases sl <;> simp only [locOf] <;> rw [if_neg ne] <;> exact a2
    · exact .inr (.inl ⟨c, a1, a2, .tail _ a3⟩)
    · exact .inr (.inr ⟨c, a1, a2, .tail _ a3⟩)
theorem at_dbg {env : Env} (S : ∀ p ∈ m, slotOk env p) {nm : Str} {v : Value} (a : At m nm v) : (nm == ("__debug__" : Str)) = false := by
  induction a with
  | loc => exact (S _ (.head _)).1
  | cell => exact (S _ (.head _)).1
  | ro => exact (S _ (.head _)).1
  | tl _ ih => exact ih fun q hq => S q (.tail _ hq)
end facts

section rules
variable {prog : Program} {w : World} {A : Around} {E : Value → Shared → Prop} {s : Shared}
variable {G0 : Heap} {gls : List (Str × Value)} {x : Fx} {g : Vis} {m m' : Loc} {news : Led}

theorem ldName {nm : Str} {v : Value} {Q : Value → Shared → Prop} (S : St G0 gls x g m news s.heap) (a : At m nm v) (h : Q v s) : wpAny (model prog w) A (loadName x.env nm) Q E s := by
  rcases at_spec S.ok.slots S.nd a with ⟨a1, a2⟩ | ⟨c, a1, a2, a3⟩ | ⟨c, a1, a2, a3⟩
  · exact wpAny_loadName_local S.ok.fn a1 S.ns a2 h
  · exact wpAny_loadName_cell S.ok.fn a1 a2 (S.cl _ _ _ a3) h
  · have ic : s.heap.IsCell c (some v) := (S.ro _ _ _ a3).keeps S.keep
    rcases a1 with a1 | ⟨a1, a4⟩
    · exact wpAny_loadName_cell S.ok.fn a1 a2 ic h
    · exact wpAny_loadName_free S.ok.fn a1 a2 ic h a4
theorem ev_ld {nm : Str} {v : Value} {pos : Pos} {Q : Value → Shared → Prop} (S : St G0 gls x g m news s.heap) (a : At m nm v) (h : Q v s) :
    wpAny (model prog w) A (eval (.Name nm pos) x.env) Q E s := wpAny_Name (ldName S a h) (at_dbg S.ok.slots a)
theorem ev_gl {nm : Str} {v : Value} {pos : Pos} {Q : Value → Shared → Prop} (S : St G0 gls x g m news s.heap) (a : (nm, v) ∈ gls) (h : Q v s) :
    wpAny (model prog w) A (eval (.Name nm pos) x.env) Q E s := by
  obtain ⟨k1, k2⟩ := S.ok.glob _ a
  refine Calls.Name_function_global S.ok.fn k1 ?_ k2
  obtain ⟨mg, mb, hg, hb, hp⟩ := S.gb.ex
  have kp : ∀ b o, G0.get? b = some o → s.heap.get? b = some o := fun b o e => S.keep _ _ (S.base _ _ e)
  rcases hp _ a with q | ⟨q1, q2⟩
  · exact Calls.loadGlobal_global (by rw [S.ok.gl]; exact hg.keeps kp) q h
  · exact Calls.loadGlobal_builtin (by rw [S.ok.gl]; exact hg.keeps kp) q1 (by rw [S.ok.bl]; exact hb.keeps kp) q2 h
end rules

section sets
variable {m m' : Loc} {nm : Str} {v : Value}
theorem Set.names (h : Set nm v m m') : names m' = names m := by
  induction h with
  | loc => rfl
  | cell => rfl
  | tl _ ih => simp only [Mine.names, List.map_cons] at ih ⊢; rw [ih]
theorem Set.cells (h : Set nm v m m') : cellsOf m' = cellsOf m := by
  induction h with
  | loc => rfl
  | cell => rfl
  | @tl p _ _ _ ih => obtain ⟨y, sl⟩ := p; cases sl <;> simp [cellsOf, ih]
theorem Set.slots {env : Env} (h : Set nm v m m') (k : ∀ p ∈ m, slotOk env p) : ∀ p ∈ m', slotOk env p := by
  induction h with
  | loc => intro p hp; rcases List.mem_cons.mp hp with rfl | hp; exact ⟨(k _ (.head _)).1, (k _ (.head _)).2⟩; exact k p (.tail _ hp)
  | cell => intro p hp; rcases List.mem_cons.mp hp with rfl | hp; exact ⟨(k _ (.head _)).1, (k _ (.head _)).2⟩; exact k p (.tail _ hp)
  | tl _ ih => intro p hp; rcases List.mem_cons.mp hp with rfl | hp; exact k _ (.head _); exact ih (fun q hq => k q (.tail _ hq)) p hp
theorem Set.ro (h : Set nm v m m') : ∀ n c u, (n, Slot.ro c u) ∈ m' → (n, Slot.ro c u) ∈ m := by
  induction h with
  | loc => intro n c u hp; rcases List.mem_cons.mp hp with q | hp; cases q; exact .tail _ hp
  | cell => intro n c u hp; rcases List.mem_cons.mp hp with q | hp; cases q; exact .tail _ hp
  | tl _ ih => intro n c u hp; rcases List.mem_cons.mp hp with q | hp; rw [q]; exact .head _; exact .tail _ (ih n c u hp)
theorem ite_swap {α β : Type} [DecidableEq α] {z y n : α} {a b c : β} (ne : y ≠ n) : (if z = y then a else if z = n then b else c) = if z = n then b else if z = y then a else c := by
  by_cases h : z = y
  · rw [if_pos h, if_neg (h ▸ ne), if_pos h]
  · rw [if_neg h, if_neg h]
/-- a local: its map; a cell: the rest stands -/
theorem Set.spec {env : Env} (h : Set nm v m m') (k : ∀ p ∈ m, slotOk env p) (nd : (Mine.names m).Nodup) (cd : (cellsOf m).Nodup) :
    (env.kindOf nm = some .local ∧ locOf m' = (fun y => if y = nm then some v else locOf m y) ∧ ∀ n c u, (n, Slot.cell c u) ∈ m' → (n, Slot.cell c u) ∈ m) ∨
    (∃ c u, env.kindOf nm = some .cell ∧ env.cells.lookup nm = some c ∧ (nm, Slot.cell c u) ∈ m ∧ locOf m' = locOf m ∧ ∀ n c' u', (n, Slot.cell c' u') ∈ m' → (c' ≠ c ∧ (n, Slot.cell c' u') ∈ m) ∨ (c' = c ∧ u' = some v)) := by
  induction h with
  | @loc u r =>
    refine .inl ⟨(k _ (.head _)).2, ?_, ?_⟩
    · funext y; simp only [locOf]; split <;> simp [*]
    · intro n c u' hp; rcases List.mem_cons.mp hp with q | hp; cases q; exact .tail _ hp
  | @cell c u r =>
    refine .inr ⟨c, u, (k _ (.head _)).2.1, (k _ (.head _)).2.2, .head _, rfl, ?_⟩
    intro n c' u' hp
    rcases List.mem_cons.mp hp with q | hp
    · cases q; exact .inr ⟨rfl, rfl⟩
    · refine .inl ⟨fun e => ?_, .tail _ hp⟩
      have cd' : (c :: cellsOf r).Nodup := cd
      exact (List.nodup_cons.mp cd').1 (e ▸ cells_mem hp)
  | @tl p r r' hs ih =>
    have hx : nm ∈ Mine.names r := by
      clear ih k nd cd
      induction hs with
      | loc => exact .head _
      | cell => exact .head _
      | tl _ ih => exact .tail _ ih
    have nd' : (p.1 :: Mine.names r).Nodup := nd
    have ne : nm ≠ p.1 := fun e => (List.nodup_cons.mp nd').1 (e ▸ hx)
    obtain ⟨y, sl⟩ := p
    have cd' : (cellsOf r).Nodup := by cases sl <;> first | exact cd | exact (List.nodup_cons.mp (show (_ :: cellsOf r).Nodup from cd)).2
    rcases ih (fun q hq => k q (.tail _ hq)) (List.nodup_cons.mp nd').2 cd' with ⟨a1, a2, a3⟩ | ⟨c, u, a1, a2, a3, a4, a5⟩
    · refine .inl ⟨a1, ?_, ?_⟩
      · funext z
        have ne' : y ≠ nm := fun e => ne e.symm
        cases sl <;> simp only [locOf, a2] <;> exact ite_swap ne'
      · intro n c u' hp
        rcases List.mem_cons.mp hp with q | hp
        · rw [q]; exact .head _
        · exact .tail _ (a3 n c u' hp)
    · refine .inr ⟨c, u, a1, a2, .tail _ a3, ?_, ?_⟩
      · funext z; cases sl <;> simp only [locOf, a4]
      · intro n c' u' hp
        rcases List.mem_cons.mp hp with q | hp
        · rw [q]
          refine .inl ⟨?_, .head _⟩
          cases q
          have cd2 : (c' :: cellsOf r).Nodup := cd
          exact fun e => (List.nodup_cons.mp cd2).1 (e ▸ cells_mem a3)
        · rcases a5 n c' u' hp with ⟨b1, b2⟩ | b
          · exact .inl ⟨b1, .tail _ b2⟩
          · exact .inr b
end sets

section facts2
variable {G0 : Heap} {gls : List (Str × Value)} {x : Fx} {g : Vis} {m m' : Loc} {news news' : Led} {h h' : Heap}
theorem St.cd (S : St G0 gls x g m news h) : (cellsOf m).Nodup := (List.nodup_append.mp (List.nodup_cons.mp S.dj).2).1
/-- the heap grows or changes at one own place -/
theorem St.move (S : St G0 gls x g m news h) {a : Addr} (ha : a ∈ owns x.env.locals m news) (hs : Heap.SameBut a h h') :
    (∀ b o, x.h₀.get? b = some o → h'.get? b = some o) ∧ Sub g h' := by
  refine ⟨fun b o e => ?_, fun b o e => ?_⟩
  · have ne : b ≠ a := fun q => by rw [q, (S.hn a ha).1] at e; cases e
    exact (hs.2 b ne).trans (S.keep b o e)
  · have ne : b ≠ a := fun q => by rw [q, (S.hn a ha).2] at e; cases e
    exact (hs.2 b ne).trans (S.sub b o e)
theorem St.put (S : St G0 gls x g m news h) {nm : Str} {v : Value} (hset : Set nm v m m')
    (hloc : x.env.kindOf nm = some .local → h'.Ns x.env.locals (fun y => if y = nm then some v else locOf m y) ∧ Heap.SameBut x.env.locals h h')
    (hcell : ∀ c, x.env.kindOf nm = some .cell → x.env.cells.lookup nm = some c → h'.IsCell c (some v) ∧ Heap.SameBut c h h') : St G0 gls x g m' news h' := by
  have ok' : EnvOk gls x.env m' := ⟨S.ok.fn, S.ok.gl, S.ok.bl, hset.slots S.ok.slots, S.ok.glob⟩
  have nd' : (names m').Nodup := by rw [hset.names]; exact S.nd
  have eo : owns x.env.locals m' news = owns x.env.locals m news := by unfold owns; rw [hset.cells]
  rcases hset.spec S.ok.slots S.nd S.cd with ⟨a1, a2, a3⟩ | ⟨c, u, a1, a2, a3, a4, a5⟩
  · obtain ⟨n1, n2⟩ := hloc a1
    have mv := S.move (.head _) n2
    refine ⟨ok', S.gb, nd', eo ▸ S.dj, eo ▸ S.hn, a2 ▸ n1, fun n c v' hm => ?_, fun p hp => ?_, fun n c u hm => S.ro n c u (hset.ro n c u hm), mv.1, mv.2, S.base, S.up, S.ext, S.ln, S.gg⟩
    · have ne : c ≠ x.env.locals := fun e => (List.nodup_cons.mp S.dj).1 (List.mem_append_left _ (e ▸ cells_mem (a3 n c v' hm)))
      exact (S.cl n c v' (a3 n c v' hm)).sameBut n2 ne
    · have ne : p.1 ≠ x.env.locals := fun e => (List.nodup_cons.mp S.dj).1 (List.mem_append_right _ (e ▸ List.mem_map_of_mem hp))
      exact (n2.2 _ ne).trans (S.ob p hp)
  · obtain ⟨n1, n2⟩ := hcell c a1 a2
    have hc : c ∈ owns x.env.locals m news := .tail _ (List.mem_append_left _ (cells_mem a3))
    have mv := S.move hc n2
    refine ⟨ok', S.gb, nd', eo ▸ S.dj, eo ▸ S.hn, ?_, fun n c' v' hm => ?_, fun p hp => ?_, fun n c' u' hm => S.ro n c' u' (hset.ro n c' u' hm), mv.1, mv.2, S.base, S.up, S.ext, S.ln, S.gg⟩
    · have ne : x.env.locals ≠ c := fun e => (List.nodup_cons.mp S.dj).1 (List.mem_append_left _ (e ▸ cells_mem a3))
      rw [a4]; exact S.ns.sameBut n2 ne
    · rcases a5 n c' v' hm with ⟨b1, b2⟩ | ⟨b1, b2⟩
      · exact (S.cl n c' v' b2).sameBut n2 b1
      · rw [b1, b2]; exact n1
    · have ne : p.1 ≠ c := fun e => (List.nodup_append.mp (List.nodup_cons.mp S.dj).2).2.2 c (cells_mem a3) p.1 (List.mem_map_of_mem hp) e.symm
      exact (n2.2 _ ne).trans (S.ob p hp)
theorem St.grow (S : St G0 gls x g m news h) (hk : ∀ b o, h.get? b = some o → h'.get? b = some o) : St G0 gls x g m news h' :=
  ⟨S.ok, S.gb, S.nd, S.dj, S.hn, S.ns.keeps hk, fun n c v hm => (S.cl n c v hm).keeps hk, fun p hp => hk _ _ (S.ob p hp), S.ro, fun b o e => hk _ _ (S.keep b o e), fun b o e => hk _ _ (S.sub b o e), S.base, S.up, S.ext, S.ln, S.gg⟩
theorem St.add (S : St G0 gls x g m news h) {a : Addr} {o : Obj} (ha : h.get? a = some o) (hna : a ∉ owns x.env.locals m news) (h1 : x.h₀.get? a = none) (h2 : g a = none) : St G0 gls x g m ((a, o) :: news) h := by
  have ow : ∀ b, b ∈ owns x.env.locals m ((a, o) :: news) → b = a ∨ b ∈ owns x.env.locals m news := by
    intro b hb
    rcases List.mem_cons.mp hb with q | hb
    · exact .inr (q ▸ .head _)
    · rcases List.mem_append.mp hb with hb | hb
      · exact .inr (.tail _ (List.mem_append_left _ hb))
      · rcases List.mem_cons.mp hb with q | hb
        · exact .inl q
        · exact .inr (.tail _ (List.mem_append_right _ hb))
  refine ⟨S.ok, S.gb, S.nd, ?_, fun b hb => ?_, S.ns, S.cl, fun p hp => ?_, S.ro, S.keep, S.sub, S.base, S.up, S.ext, S.ln, S.gg⟩
  · have pm : (a :: owns x.env.locals m news).Perm (owns x.env.locals m ((a, o) :: news)) := by
      refine (List.Perm.swap _ _ _).trans (List.Perm.cons _ ?_)
      exact List.perm_middle.symm
    exact pm.nodup_iff.mp (List.nodup_cons.mpr ⟨hna, S.dj⟩)
  · rcases ow b hb with rfl | hb
    · exact ⟨h1, h2⟩
    · exact S.hn b hb
  · rcases List.mem_cons.mp hp with rfl | hp
    · exact ha
    · exact S.ob p hp
theorem St.alloc (S : St G0 gls x g m news h) {o : Obj} (hf : o.isFreed = false) : St G0 gls x g m ((h.objs.size, o) :: news) (h.push o) := by
  refine (S.grow (fun b o' e => Heap.get?_push_of_some _ e)).add (Heap.get?_push_size _ hf) (fun hm => Nat.lt_irrefl _ (S.lt _ hm)) ?_ ?_
  · cases q : x.h₀.get? h.objs.size with
    | none => rfl
    | some o' => exact absurd (Heap.lt_size (S.keep _ _ q)) (Nat.lt_irrefl _)
  · cases q : g h.objs.size with
    | none => rfl
    | some o' => exact absurd (Heap.lt_size (S.sub _ _ q)) (Nat.lt_irrefl _)
theorem St.perm (S : St G0 gls x g m news h) (hp : news.Perm news') : St G0 gls x g m news' h := by
  have pm : (owns x.env.locals m news).Perm (owns x.env.locals m news') := List.Perm.cons _ (List.Perm.append_left _ (hp.map _))
  exact ⟨S.ok, S.gb, S.nd, pm.nodup_iff.mp S.dj, fun a ha => S.hn a (pm.mem_iff.mpr ha), S.ns, S.cl, fun p q => S.ob p (hp.mem_iff.mpr q), S.ro, S.keep, S.sub, S.base, S.up, S.ext, S.ln, S.gg⟩
theorem St.drop (S : St G0 gls x g m news h) (hp : news'.Sublist news) : St G0 gls x g m news' h := by
  have sb : (owns x.env.locals m news').Sublist (owns x.env.locals m news) := List.Sublist.cons_cons _ (List.Sublist.append (List.Sublist.refl _) (hp.map _))
  exact ⟨S.ok, S.gb, S.nd, sb.nodup S.dj, fun a ha => S.hn a (sb.mem ha), S.ns, S.cl, fun p q => S.ob p (hp.mem q), S.ro, S.keep, S.sub, S.base, S.up, S.ext, S.ln, S.gg⟩
/-- the head of the ledger is seen from now on -/
theorem St.freeze (S : St G0 gls x g m ((a, o) :: news) h) (hn : x.n₀ ≤ a) : St G0 gls x (g.put a o) m news h := by
  have S' := S.drop (List.sublist_cons_self (a, o) news)
  have ha : a ∈ owns x.env.locals m ((a, o) :: news) := .tail _ (List.mem_append_right _ (.head _))
  have nin : a ∉ owns x.env.locals m news := by
    have pm : (a :: owns x.env.locals m news).Perm (owns x.env.locals m ((a, o) :: news)) := (List.Perm.swap _ _ _).trans (List.Perm.cons _ List.perm_middle.symm)
    exact (List.nodup_cons.mp (pm.nodup_iff.mpr S.dj)).1
  refine ⟨S'.ok, S'.gb, S'.nd, S'.dj, fun b hb => ⟨(S'.hn b hb).1, ?_⟩, S'.ns, S'.cl, S'.ob, S'.ro, S'.keep, fun b o' e => ?_, S'.base, fun b o' e => ?_, fun b o' e => ?_, S'.ln, S'.gg⟩
  · have ne : b ≠ a := fun q => nin (q ▸ hb)
    show (if b = a then some o else g b) = none
    rw [if_neg ne]; exact (S'.hn b hb).2
  · by_cases q : b = a
    · subst q
      have : (if b = b then some o else g b) = some o' := e
      rw [if_pos rfl] at this; cases this
      exact S.ob _ (.head _)
    · have : (if b = a then some o else g b) = some o' := e
      rw [if_neg q] at this; exact S.sub _ _ this
  · show (if b = a then some o else g b) = some o'
    by_cases q : b = a
    · subst q; rw [S.up _ _ e] at *; exact absurd (S.up _ _ e) (by rw [(S.hn b ha).2]; simp)
    · rw [if_neg q]; exact S.up _ _ e
  · have e' : (if b = a then some o else g b) = some o' := e
    by_cases q : b = a
    · exact .inr (q ▸ hn)
    · rw [if_neg q] at e'; exact S.ext _ _ e'
theorem Vis.put_up {g : Vis} {a : Addr} {o : Obj} (hg : g a = none) : VSub g (g.put a o) := fun b o' e => by
  show (if b = a then some o else g b) = some o'
  by_cases q : b = a
  · subst q; rw [hg] at e; cases e
  · rw [if_neg q]; exact e
theorem Vis.put_at {g : Vis} {a : Addr} {o : Obj} : g.put a o a = some o := if_pos rfl
theorem St.none (S : St G0 gls x g m news h) {a : Addr} (ha : a ∈ news.map (·.1)) : g a = none := (S.hn a (.tail _ (List.mem_append_right _ ha))).2
/-- an own object changes -/
theorem St.chg (S : St G0 gls x g m ((a, o) :: news) h) {o' : Obj} (hs : Heap.SameBut a h h') (ho : h'.get? a = some o') : St G0 gls x g m ((a, o') :: news) h' := by
  have ha : a ∈ owns x.env.locals m ((a, o) :: news) := .tail _ (List.mem_append_right _ (.head _))
  have mv := S.move ha hs
  have nin : a ∉ owns x.env.locals m news := by
    have pm : (a :: owns x.env.locals m news).Perm (owns x.env.locals m ((a, o) :: news)) := (List.Perm.swap _ _ _).trans (List.Perm.cons _ List.perm_middle.symm)
    exact (List.nodup_cons.mp (pm.nodup_iff.mpr S.dj)).1
  refine ⟨S.ok, S.gb, S.nd, S.dj, S.hn, S.ns.sameBut hs fun e => nin (e ▸ .head _), fun n c v hm => (S.cl n c v hm).sameBut hs fun e => nin (e ▸ .tail _ (List.mem_append_left _ (cells_mem hm))), fun p hp => ?_, S.ro, mv.1, mv.2, S.base, S.up, S.ext, S.ln, S.gg⟩
  rcases List.mem_cons.mp hp with rfl | hp
  · exact ho
  · exact (hs.2 _ fun e => nin (e ▸ .tail _ (List.mem_append_right _ (List.mem_map_of_mem hp)))).trans (S.ob p (.tail _ hp))
theorem St.upd (S : St G0 gls x g m ((a, o) :: news) h) {f : Obj → Obj} (hf : (f o).isFreed = false) : St G0 gls x g m ((a, f o) :: news) (h.update a f) :=
  S.chg (Heap.SameBut.update h a f) (Heap.get?_update_self f (S.ob _ (.head _)) hf)
end facts2

section rules2
variable {prog : Program} {w : World} {A : Around} {E : Value → Shared → Prop} {s : Shared}
variable {G0 : Heap} {gls : List (Str × Value)} {x : Fx} {g : Vis} {m m' : Loc} {news : Led}
theorem stName {nm : Str} {v : Value} {Q : Unit → Shared → Prop} (S : St G0 gls x g m news s.heap) (hset : Set nm v m m')
    (h : ∀ h' tk, St G0 gls x g m' news h' → Q () { s with heap := h', toks := tk }) : wpAny (model prog w) A (storeName x.env nm v) Q E s := by
  rcases hset.spec S.ok.slots S.nd S.cd with ⟨a1, a2, a3⟩ | ⟨c, u, a1, a2, a3, a4, a5⟩
  · exact wpAny_storeName_local a1 S.ns (fun h' hn hs => h h' _ (S.put hset (fun _ => ⟨hn, hs⟩) fun c q => by rw [a1] at q; cases q)) (by rw [S.ok.fn]; rfl)
  · exact wpAny_storeName_cell S.ok.fn a1 a2 (S.cl _ _ _ a3) fun h' hn hs => h h' s.toks (S.put hset (fun q => by rw [a1] at q; cases q) fun c' _ q => by rw [a2] at q; cases q; exact ⟨hn, hs⟩)
end rules2
end Mine

-- MCall
namespace Mine

structure Rm (A : Around) (d : Nat) : Prop where
  hd : A.handled = none
  dp : A.depth + 2 * d < 900
  un : A.units + 16 * d < 9000
theorem Rm.room {A : Around} {d : Nat} (r : Rm A d) : A.depth < recursionLimit := by
  have := r.dp; show A.depth < 1000; lia
theorem Rm.units {A : Around} {d : Nat} (r : Rm A d) : A.units + 64 < cLine := by
  have := r.un; show A.units + 64 < 9900; lia
theorem Rm.units' {A : Around} {d : Nat} (r : Rm A d) : A.units < cLine := by
  have := r.un; show A.units < 9900; lia
theorem Rm.deeper {A : Around} {d : Nat} {env : Env} (r : Rm A (d + 1)) : Rm (A.deeper env) d :=
  ⟨r.hd, by have := r.dp; show A.depth + 1 + 2 * d < 900; lia, by have := r.un; show A.units + 3 + 16 * d < 9000; lia⟩
theorem Rm.in1 {A : Around} {d : Nat} (r : Rm A (d + 1)) : Rm A.in1 d :=
  ⟨r.hd, by have := r.dp; show A.depth + 2 * d < 900; lia, by have := r.un; show A.units + 1 + 16 * d < 9000; lia⟩
theorem Rm.le {A : Around} {d e : Nat} (r : Rm A d) (h : e ≤ d) : Rm A e := ⟨r.hd, by have := r.dp; lia, by have := r.un; lia⟩

structure Vw (G0 : Heap) (h : Heap) (g : Vis) (own : Led) : Prop where
  sub : Sub g h
  ob : ∀ p ∈ own, h.get? p.1 = some p.2
  dj : (own.map (·.1)).Nodup
  hn : ∀ p ∈ own, g p.1 = none
  gg : ∀ b o, G0.get? b = some o → g b = some o

noncomputable def Out (s : Shared) (g : Vis) (W : List Addr) (P : Value → Vis → Led → Prop) (v : Value) (s' : Shared) : Prop :=
  ∃ h' tk g' own', s' = { s with heap := h', toks := tk } ∧ (∀ b o, s.heap.get? b = some o → b ∉ W → h'.get? b = some o) ∧ s.heap.objs.size ≤ h'.objs.size ∧ VSub g g' ∧
    (∀ a o, g' a = some o → g a = some o ∨ s.heap.objs.size ≤ a) ∧ Sub g' h' ∧ (∀ p ∈ own', h'.get? p.1 = some p.2) ∧ own'.map (·.1) = W ∧ P v g' own'

noncomputable def Fn (prog : Program) (w : World) (G0 : Heap) (d : Nat) (f : Value) (args : List Value) (g : Vis) (own : Led) (P : Value → Vis → Led → Prop) : Prop :=
  ∀ (A : Around) (s : Shared) (E : Value → Shared → Prop), Rm A d → Vw G0 s.heap g own → wpAny (model prog w) A (call f args) (Out s g (own.map (·.1)) P) E s

section
variable {prog : Program} {w : World} {A : Around} {E : Value → Shared → Prop} {s : Shared}
variable {G0 : Heap} {gls : List (Str × Value)} {x : Fx} {g : Vis} {m m' : Loc} {news own rest : Led}

theorem St.vw (S : St G0 gls x g m (own ++ rest) s.heap) : Vw G0 s.heap g own := by
  refine ⟨S.sub, fun p hp => S.ob p (List.mem_append_left _ hp), ?_, fun p hp => S.none (by rw [List.map_append]; exact List.mem_append_left _ (List.mem_map_of_mem hp)), fun b o e => S.up _ _ (S.gg _ _ e)⟩
  have h1 := (List.nodup_append.mp (List.nodup_cons.mp S.dj).2).2.1
  rw [List.map_append] at h1
  exact (List.nodup_append.mp h1).1

theorem St.out (S : St G0 gls x g m (own ++ rest) s.heap) {P : Value → Vis → Led → Prop} {v : Value} {s' : Shared} (o : Out s g (own.map (·.1)) P v s') :
    ∃ h' tk g' own', s' = { s with heap := h', toks := tk } ∧ St G0 gls x g' m (own' ++ rest) h' ∧ VSub g g' ∧ P v g' own' := by
  obtain ⟨h', tk, g', own', rfl, hk, _, hv, hx, hsub, hob, hw, hp⟩ := o
  refine ⟨h', tk, g', own', rfl, ?_, hv, hp⟩
  have eo : owns x.env.locals m (own' ++ rest) = owns x.env.locals m (own ++ rest) := by
    unfold owns; rw [List.map_append, List.map_append, hw]
  have dj := S.dj
  have inW : ∀ a, a ∈ own.map (·.1) → a ∈ owns x.env.locals m (own ++ rest) := fun a ha => .tail _ (List.mem_append_right _ (by rw [List.map_append]; exact List.mem_append_left _ ha))
  have kp : ∀ b o, x.h₀.get? b = some o → h'.get? b = some o := fun b o e => hk b o (S.keep b o e) fun q => by rw [(S.hn b (inW b q)).1] at e; cases e
  have dj2 := List.nodup_append.mp (List.nodup_cons.mp S.dj).2
  have nL : x.env.locals ∉ own.map (·.1) := fun q => (List.nodup_cons.mp S.dj).1 (List.mem_append_right _ (by rw [List.map_append]; exact List.mem_append_left _ q))
  refine ⟨S.ok, S.gb, S.nd, eo ▸ S.dj, fun a ha => ?_, ?_, fun n c v hm => ?_, fun p hp => ?_, S.ro, kp, hsub, S.base, S.up.trans hv, fun a o e => ?_, S.ln, S.gg⟩
  · rw [eo] at ha
    refine ⟨(S.hn a ha).1, ?_⟩
    cases q : g' a with
    | none => rfl
    | some o =>
      rcases hx a o q with q | q
      · rw [(S.hn a ha).2] at q; cases q
      · exact absurd (S.lt a ha) (Nat.not_lt.mpr q)
  · obtain ⟨o, es, ep, ho, r⟩ := S.ns
    exact ⟨o, es, ep, hk _ _ ho nL, r⟩
  · obtain ⟨o, ho, hd⟩ := S.cl n c v hm
    refine ⟨o, hk _ _ ho fun q => ?_, hd⟩
    exact dj2.2.2 c (cells_mem hm) c (by rw [List.map_append]; exact List.mem_append_left _ q) rfl
  · rcases List.mem_append.mp hp with q | q
    · exact hob p q
    · refine hk _ _ (S.ob p (List.mem_append_right _ q)) fun z => ?_
      have d3 := dj2.2.1
      rw [List.map_append] at d3
      exact (List.nodup_append.mp d3).2.2 _ z _ (List.mem_map_of_mem q) rfl
  · rcases hx a o e with q | q
    · exact S.ext a o q
    · exact .inr (Nat.le_trans S.sz q)

theorem call_fn {d : Nat} {f : Value} {args : List Value} {P : Value → Vis → Led → Prop} {Q : Value → Shared → Prop} (S : St G0 gls x g m (own ++ rest) s.heap) (r : Rm A d) (hf : Fn prog w G0 d f args g own P)
    (h : ∀ v h' tk g' own', St G0 gls x g' m (own' ++ rest) h' → VSub g g' → P v g' own' → Q v { s with heap := h', toks := tk }) : wpAny (model prog w) A (call f args) Q E s :=
  wpAny_mono (hf A s E r S.vw) (fun v s' o => by obtain ⟨h', tk, g', own', rfl, S', hv, hp⟩ := S.out o; exact h v h' tk g' own' S' hv hp) fun _ _ e => e

structure Ent (x : Fx) (s : Shared) (g : Vis) (W : List Addr) : Prop where
  g₀ : x.g₀ = g
  n₀ : x.n₀ = s.heap.objs.size
  h₀ : ∀ b o, s.heap.get? b = some o → b ∉ W → x.h₀.get? b = some o

/-- at a return -/
theorem St.leave {s s₁ : Shared} {W : List Addr} {g₀ : Vis} {P : Value → Vis → Led → Prop} {v : Value} (S : St G0 gls x g m (own ++ rest) s₁.heap) (e : Ent x s g₀ W) (hs : s₁ = { s with heap := s₁.heap, toks := s₁.toks }) (hw : own.map (·.1) = W) (hp : P v g own) :
    Out s g₀ W P v s₁ :=
  ⟨s₁.heap, s₁.toks, g, own, hs, fun b o q n => S.keep b o (e.h₀ b o q n), e.n₀ ▸ S.sz, e.g₀ ▸ S.up, fun a o q => by have := S.ext a o q; rwa [e.g₀, e.n₀] at this, S.sub, fun p q => S.ob p (List.mem_append_left _ q), hw, hp⟩

noncomputable def m0 (binds : List (Str × Value)) (rest : List Str) : Loc := binds.map (fun p => (p.1, .loc (some p.2))) ++ rest.map fun n => (n, .loc none)
theorem m0_cells (binds : List (Str × Value)) (rest : List Str) : cellsOf (m0 binds rest) = [] := by
  unfold m0
  induction binds with
  | nil =>
    induction rest with
    | nil => rfl
    | cons n r ih => exact ih
  | cons p r ih => exact ih
theorem m0_loc : ∀ (binds : List (Str × Value)) (rest : List Str), locOf (m0 binds rest) = fun y => binds.lookup y
  | [], rest => by
    funext y
    show locOf (rest.map fun n => (n, Slot.loc none)) y = none
    induction rest with
    | nil => rfl
    | cons n r ih => simp only [List.map_cons, locOf, ih]; split <;> rfl
  | (n, v) :: r, rest => by
    funext y
    have ih := congrFun (m0_loc r rest) y
    show (if y = n then some v else locOf (m0 r rest) y) = _
    rw [ih, List.lookup_cons]
    by_cases q : y = n
    · simp [q]
    · simp [q, beq_eq_false_iff_ne.mpr q]
theorem lookup_notin : ∀ {binds : List (Str × Value)} {y : Str}, y ∉ binds.map (·.1) → binds.lookup y = none
  | [], _, _ => rfl
  | (n, v) :: r, y, h => by
    have ne : y ≠ n := fun e => h (e ▸ .head _)
    rw [List.lookup_cons, beq_eq_false_iff_ne.mpr ne]
    exact lookup_notin fun q => h (.tail _ q)
theorem lookup_reverse : ∀ {binds : List (Str × Value)}, (binds.map (·.1)).Nodup → ∀ y, binds.reverse.lookup y = binds.lookup y
  | [], _, _ => rfl
  | (n, v) :: r, nd, y => by
    have nd' : (n :: r.map (·.1)).Nodup := nd
    rw [List.reverse_cons, List.lookup_append, lookup_reverse (List.nodup_cons.mp nd').2 y, List.lookup_cons, List.lookup_cons]
    by_cases q : y = n
    · subst q; simp [lookup_notin (List.nodup_cons.mp nd').1]
    · simp [beq_eq_false_iff_ne.mpr q]

/-- what the names of a def's block must be: one check a def -/
noncomputable def namesOk (scope : Scope) (ns : List Str) (gls : List (Str × Value)) : Bool :=
  ns.all (fun n => scope.names.lookup n == some .local && !(n == ("__debug__" : Str))) && gls.all (fun p => scope.names.lookup p.1 == some .globalImplicit && !(p.1 == ("__debug__" : Str))) &&
    decide ns.Nodup && scope.names.all (fun p => !(p.2 == .cell)) && scope.kind == .function && !scope.isCoroutine && !scope.isGenerator

theorem enter {f : Addr} {o : Obj} {fd : FuncData} {body : List Stmt} {args : Args} {binds : List (Str × Value)} {rest : List Str} {own : Led} {d : Nat} {R : Result → Shared → Prop} {m : Loc}
    (r : Rm A (d + 1)) (V : Vw G0 s.heap g own) (ho : G0.get? f = some o) (hd : o.data = .func fd) (hlim : G0.NoLimit) (hcd : G0.CodeRec fd.code fd.qualname) (hbody : fd.body = .stmts body)
    (hgl : fd.globals = mainGlobals) (hbl : fd.builtins = builtinsNs) (hbind : BindsTo s fd args binds) (hm : m = m0 binds rest) (hok : namesOk fd.scope (names m) gls = true) (gb : Glb G0 gls)
    (h : ∀ x h₁ tk, x.env = callEnv fd s.heap.objs.size f → Ent x s g (own.map (·.1)) → St G0 gls x g m own h₁ →
      wpAny (model prog w) (A.deeper x.env) (execs body x.env) (fun fl s' => R (.ok (.ret (match fl with | .ret v => v | _ => .none))) s') (fun _ _ => False) { s with heap := h₁, toks := tk }) :
    codeAny (model prog w) A (.call (.ref f) args) R s := by
  subst hm
  unfold namesOk at hok
  simp only [Bool.and_eq_true] at hok
  obtain ⟨⟨⟨⟨⟨⟨k1, k2⟩, k3⟩, k4⟩, k5⟩, k6⟩, k7⟩ := hok
  have kp : ∀ b o, G0.get? b = some o → s.heap.get? b = some o := fun b o e => V.sub _ _ (V.gg _ _ e)
  have fn : fd.scope.kind = .function := by simpa using k5
  have nm : names (m0 binds rest) = binds.map (·.1) ++ rest := by simp [names, m0, Function.comp_def]
  have nd : (names (m0 binds rest)).Nodup := of_decide_eq_true k3
  have ndb : (binds.map (·.1)).Nodup := by rw [nm] at nd; exact (List.nodup_append.mp nd).1
  refine codeAny_call_def r.room (kp _ _ ho) hd (hlim.keeps kp) (hcd.keeps kp) hbody hbind (fun y hy => ?_) (fun y hy => ?_) (fun h₁ hns hk => ?_) (by simpa using k6) (by simpa using k7) fn
  · have := List.all_eq_true.mp k4 y hy
    simpa using this
  · have := List.all_eq_true.mp k1 y.1 (by rw [nm]; exact List.mem_append_left _ (List.mem_map_of_mem hy))
    simp only [Bool.and_eq_true, beq_iff_eq] at this
    exact this.1
  · have lt : ∀ a o', s.heap.get? a = some o' → a ≠ s.heap.objs.size := fun a o' e => Nat.ne_of_lt (Heap.lt_size e)
    have Lnone : s.heap.get? s.heap.objs.size = none := by
      cases q : s.heap.get? s.heap.objs.size with
      | none => rfl
      | some o' => exact absurd rfl (lt _ _ q)
    let X : Fx := ⟨callEnv fd s.heap.objs.size f, hideAll s.heap (own.map (·.1)), g, s.heap.objs.size⟩
    have ns' : h₁.Ns s.heap.objs.size (locOf (m0 binds rest)) := by
      rw [m0_loc]
      have : (fun y => binds.reverse.lookup y) = fun y => binds.lookup y := funext (lookup_reverse ndb)
      rw [← this]; exact hns
    have S : St G0 gls X g (m0 binds rest) own h₁ := by
      refine ⟨⟨fn, hgl, hbl, fun p hp => ?_, fun p hp => ?_⟩, gb, nd, ?_, fun a ha => ?_, ns', fun n c v hm => ?_, fun p hp => hk _ _ (V.ob p hp), fun n c v hm => ?_, fun b o' e => hk _ _ (of_hideAll _ e), fun b o' e => hk _ _ (V.sub _ _ e),
        fun b o' e => hideAll_get _ (kp _ _ e) fun q => ?_, VSub.refl g, fun a o' e => .inl e, ?_, V.gg⟩
      · have q := List.all_eq_true.mp k1 p.1 (List.mem_map_of_mem hp)
        simp only [Bool.and_eq_true, beq_iff_eq, Bool.not_eq_true'] at q
        refine ⟨q.2, ?_⟩
        have hl : ∃ v, p.2 = .loc v := by
          unfold m0 at hp
          rcases List.mem_append.mp hp with hp | hp
          · obtain ⟨z, _, rfl⟩ := List.mem_map.mp hp; exact ⟨_, rfl⟩
          · obtain ⟨z, _, rfl⟩ := List.mem_map.mp hp; exact ⟨_, rfl⟩
        obtain ⟨v, hv⟩ := hl
        rw [hv]; exact q.1
      · have q := List.all_eq_true.mp k2 p hp
        simp only [Bool.and_eq_true, beq_iff_eq, Bool.not_eq_true'] at q
        exact q
      · show (s.heap.objs.size :: (cellsOf (m0 binds rest) ++ own.map (·.1))).Nodup
        rw [m0_cells, List.nil_append]
        refine List.nodup_cons.mpr ⟨fun q => ?_, V.dj⟩
        obtain ⟨p, hp, e⟩ := List.mem_map.mp q
        exact lt _ _ (V.ob p hp) e
      · have ha' : a ∈ s.heap.objs.size :: (cellsOf (m0 binds rest) ++ own.map (·.1)) := ha
        rw [m0_cells, List.nil_append] at ha'
        rcases List.mem_cons.mp ha' with rfl | q
        · refine ⟨?_, ?_⟩
          · cases z : (hideAll s.heap (own.map (·.1))).get? s.heap.objs.size with
            | none => rfl
            | some o' => have := of_hideAll _ z; rw [Lnone] at this; cases this
          · cases z : g s.heap.objs.size with
            | none => rfl
            | some o' => have := V.sub _ _ z; rw [Lnone] at this; cases this
        · obtain ⟨p, hp, rfl⟩ := List.mem_map.mp q
          exact ⟨hideAll_none _ q, V.hn p hp⟩
      · have := cells_mem hm; rw [m0_cells] at this; cases this
      · exfalso
        unfold m0 at hm
        rcases List.mem_append.mp hm with hp | hp
        · obtain ⟨z, _, e⟩ := List.mem_map.mp hp; cases e
        · obtain ⟨z, _, e⟩ := List.mem_map.mp hp; cases e
      · obtain ⟨p, hp, rfl⟩ := List.mem_map.mp q
        have := V.gg _ _ e; rw [V.hn p hp] at this; cases this
      · exact Nat.le_refl _
    refine wpAny_mono (h X h₁ _ rfl ⟨rfl, rfl, fun b o' e n => hideAll_get _ e n⟩ S) (fun _ _ q => q) fun _ _ q => q.elim
end
end Mine

-- MRules
namespace Mine

theorem nn {α : Type} {a : α} {P : Prop} (h : none = some a) : P := nomatch h
theorem bind_ok {α β : Type} {x : Option α} {f : α → Option β} {b : β} {P : Prop} (h : x.bind f = some b) (k : ∀ a, x = some a → f a = some b → P) : P := by
  cases x with
  | none => exact nn h
  | some a => exact k a rfl h
theorem if_ok {α : Type} {c : Prop} [Decidable c] {a b : α} {P : Prop} (h : (if c then some a else none) = some b) (k : c → a = b → P) : P := by
  by_cases q : c
  · rw [if_pos q] at h; exact k q (Option.some.inj h)
  · rw [if_neg q] at h; exact nn h
noncomputable abbrev tupO (vs : List Value) : Obj := { cls := .type "tuple", data := .seq vs.toArray }
noncomputable abbrev lstO (vs : List Value) (n : Nat) : Obj := { cls := .type "list", data := .seq vs.toArray n }

mutual
inductive Rd (g : Vis) : Value → PyData → Prop
  | none : Rd g .none .none
  | bool (b) : Rd g (.bool b) (.bool b)
  | int (i t) : Rd g (.int i t) (.int i)
  | tup {a vs n xs} : g a = some { cls := .type "tuple", data := .seq (List.toArray vs) n } → RdAll g vs xs → Rd g (.ref a) (.tuple xs)
  | lst {a vs n xs} : g a = some { cls := .type "list", data := .seq (List.toArray vs) n } → RdAll g vs xs → Rd g (.ref a) (.list xs)
inductive RdAll (g : Vis) : List Value → List PyData → Prop
  | nil : RdAll g [] []
  | cons {v vs x xs} : Rd g v x → RdAll g vs xs → RdAll g (v :: vs) (x :: xs)
end
theorem Rd.up {g g' : Vis} (h : VSub g g') {v : Value} {x : PyData} (r : Rd g v x) : Rd g' v x :=
  Rd.rec (motive_1 := fun v x _ => Rd g' v x) (motive_2 := fun vs xs _ => RdAll g' vs xs) .none .bool .int (fun e _ r => .tup (h _ _ e) r) (fun e _ r => .lst (h _ _ e) r) .nil (fun _ _ a b => .cons a b) r
/-- induction on the list alone -/
theorem RdAll.ind {g : Vis} {M : List Value → List PyData → Prop} (n : M [] []) (c : ∀ {v vs x xs}, Rd g v x → RdAll g vs xs → M vs xs → M (v :: vs) (x :: xs)) {vs : List Value} {xs : List PyData} (r : RdAll g vs xs) : M vs xs :=
  RdAll.rec (motive_1 := fun _ _ _ => True) (motive_2 := fun vs xs _ => M vs xs) trivial (fun _ => trivial) (fun _ _ => trivial) (fun _ _ _ => trivial) (fun _ _ _ => trivial) n (fun a b _ m => c a b m) r
theorem RdAll.up {g g' : Vis} (h : VSub g g') {vs : List Value} {xs : List PyData} (r : RdAll g vs xs) : RdAll g' vs xs := r.ind (M := fun vs xs => RdAll g' vs xs) .nil fun a _ m => .cons (a.up h) m
theorem Rd.reads {g : Vis} {h : Heap} (k : Sub g h) {v : Value} {x : PyData} (r : Rd g v x) : ∃ as, Reads h v x as :=
  Rd.rec (motive_1 := fun v x _ => ∃ as, Reads h v x as) (motive_2 := fun vs xs _ => ∃ as, ReadsAll h vs xs as) ⟨_, .none⟩ (fun b => ⟨_, .bool b⟩) (fun i t => ⟨_, .int i t⟩) (fun e _ r => r.elim fun _ q => ⟨_, .tuple (k _ _ e) rfl rfl q⟩) (fun e _ r => r.elim fun _ q => ⟨_, .list (k _ _ e) rfl rfl q⟩)
    ⟨_, .nil⟩ (fun _ _ a b => a.elim fun _ q => b.elim fun _ r => ⟨_, .cons q r⟩) r
theorem RdAll.reads {g : Vis} {h : Heap} (k : Sub g h) {vs : List Value} {xs : List PyData} (r : RdAll g vs xs) : ∃ as, ReadsAll h vs xs as :=
  r.ind (M := fun vs xs => ∃ as, ReadsAll h vs xs as) ⟨_, .nil⟩ fun a _ m => (a.reads k).elim fun _ q => m.elim fun _ r => ⟨_, .cons q r⟩
theorem RdAll.length {g : Vis} {vs : List Value} {xs : List PyData} (r : RdAll g vs xs) : vs.length = xs.length := r.ind (M := fun vs xs => vs.length = xs.length) rfl fun _ _ m => congrArg (· + 1) m
theorem RdAll.get {g : Vis} {vs : List Value} {xs : List PyData} {i : Nat} {v : Value} (r : RdAll g vs xs) : vs[i]? = some v → ∃ x, xs[i]? = some x ∧ Rd g v x :=
  r.ind (M := fun vs xs => ∀ i : Nat, vs[i]? = some v → ∃ x, xs[i]? = some x ∧ Rd g v x) (fun _ e => nomatch e) (fun a _ m i => i.casesOn (fun e => ⟨_, rfl, Option.some.inj e ▸ a⟩) fun i e => m i e) i
theorem RdAll.get' {g : Vis} {vs : List Value} {xs : List PyData} {i : Nat} {x : PyData} (r : RdAll g vs xs) : xs[i]? = some x → ∃ v, vs[i]? = some v ∧ Rd g v x :=
  r.ind (M := fun vs xs => ∀ i : Nat, xs[i]? = some x → ∃ v, vs[i]? = some v ∧ Rd g v x) (fun _ e => nomatch e) (fun a _ m i => i.casesOn (fun e => ⟨_, rfl, Option.some.inj e ▸ a⟩) fun i e => m i e) i
theorem RdAll.append {g : Vis} {vs ws : List Value} {xs ys : List PyData} (r : RdAll g vs xs) (r2 : RdAll g ws ys) : RdAll g (vs ++ ws) (xs ++ ys) := r.ind (M := fun vs xs => RdAll g (vs ++ ws) (xs ++ ys)) r2 fun a _ m => .cons a m
theorem RdAll.drop {g : Vis} {vs : List Value} {xs : List PyData} (n : Nat) (r : RdAll g vs xs) : RdAll g (vs.drop n) (xs.drop n) :=
  r.ind (M := fun vs xs => ∀ n : Nat, RdAll g (vs.drop n) (xs.drop n)) (fun n => n.casesOn .nil fun _ => .nil) (fun a b m n => n.casesOn (.cons a b) fun n => m n) n
theorem RdAll.take {g : Vis} {vs : List Value} {xs : List PyData} (n : Nat) (r : RdAll g vs xs) : RdAll g (vs.take n) (xs.take n) :=
  r.ind (M := fun vs xs => ∀ n : Nat, RdAll g (vs.take n) (xs.take n)) (fun n => n.casesOn .nil fun _ => .nil) (fun a _ m n => n.casesOn .nil fun n => .cons a (m n)) n
theorem Rd.tup_inv {g : Vis} {v : Value} {xs : List PyData} (r : Rd g v (.tuple xs)) : ∃ a vs n, v = .ref a ∧ g a = some { cls := .type "tuple", data := .seq (List.toArray vs) n } ∧ RdAll g vs xs := by
  cases r with | tup e q => exact ⟨_, _, _, rfl, e, q⟩
theorem Rd.lst_inv {g : Vis} {v : Value} {xs : List PyData} (r : Rd g v (.list xs)) : ∃ a vs n, v = .ref a ∧ g a = some { cls := .type "list", data := .seq (List.toArray vs) n } ∧ RdAll g vs xs := by
  cases r with | lst e q => exact ⟨_, _, _, rfl, e, q⟩
theorem Rd.tup_ref {g : Vis} {v : Value} {xs : List PyData} (r : Rd g v (.tuple xs)) : ∃ a, v = .ref a := r.tup_inv.elim fun a h => h.elim fun _ h => h.elim fun _ h => ⟨a, h.1⟩
theorem Rd.lst_ref {g : Vis} {v : Value} {xs : List PyData} (r : Rd g v (.list xs)) : ∃ a, v = .ref a := r.lst_inv.elim fun a h => h.elim fun _ h => h.elim fun _ h => ⟨a, h.1⟩
theorem Rd.int_inv {g : Vis} {v : Value} {i : Int} (r : Rd g v (.int i)) : ∃ t, v = .int i t := by cases r; exact ⟨_, rfl⟩
theorem Rd.none_inv {g : Vis} {v : Value} (r : Rd g v .none) : v = .none := by cases r; rfl
theorem Rd.bool_inv {g : Vis} {v : Value} {b : Bool} (r : Rd g v (.bool b)) : v = .bool b := by cases r; rfl

/-- ints alone -/
noncomputable abbrev iis (l : List Int) : List PyData := l.map .int

section rules
variable {prog : Program} {w : World} {A : Around} {E : Value → Shared → Prop} {s : Shared}
variable {G0 : Heap} {gls : List (Str × Value)} {x : Fx} {g : Vis} {m m' : Loc} {news rest : Led} {env : Env} {d : Nat}

theorem St.isTup (S : St G0 gls x g m news s.heap) {a : Addr} {vs : List Value} {n : Nat} (e : g a = some { cls := .type "tuple", data := .seq (List.toArray vs) n }) : IsTup s.heap a vs.toArray := ⟨_, S.sub _ _ e, rfl, n, rfl⟩
theorem St.isLst (S : St G0 gls x g m news s.heap) {a : Addr} {vs : List Value} {n : Nat} (e : g a = some { cls := .type "list", data := .seq (List.toArray vs) n }) : s.heap.IsList a vs.toArray := ⟨_, S.sub _ _ e, rfl, n, rfl⟩
theorem St.at {a : Addr} {o : Obj} (S : St G0 gls x g m news s.heap) (hm : (a, o) ∈ news) : s.heap.get? a = some o := S.ob _ hm
theorem St.top {a : Addr} {o : Obj} (S : St G0 gls x g m news s.heap) (h : G0.get? a = some o) : s.heap.get? a = some o := S.keep _ _ (S.base _ _ h)
theorem St.gtop {a : Addr} {o : Obj} (S : St G0 gls x g m news s.heap) (h : G0.get? a = some o) : g a = some o := S.up _ _ (S.gg _ _ h)

theorem r_newTuple {vs : List Value} {Q : Value → Shared → Prop} (S : St G0 gls x g m news s.heap)
    (h : ∀ a h', St G0 gls x g m ((a, tupO vs) :: news) h' → Q (.ref a) { s with heap := h' }) (hsz : vs.length ≤ sizeLine) : wpAny (model prog w) A (newTuple vs) Q E s :=
  wpAny_newObj_type (h _ _ (S.alloc rfl)) (by show vs.toArray.size ≤ sizeLine; rw [List.size_toArray]; exact hsz)
theorem r_newList {vs : List Value} {Q : Value → Shared → Prop} (S : St G0 gls x g m news s.heap)
    (h : ∀ a h', x.n₀ ≤ a → St G0 gls x g m ((a, lstO vs 0) :: news) h' → Q (.ref a) { s with heap := h' }) (hsz : vs.length ≤ sizeLine) : wpAny (model prog w) A (newList vs) Q E s :=
  wpAny_newObj_type (h _ _ S.sz (S.alloc rfl)) (by show vs.toArray.size ≤ sizeLine; rw [List.size_toArray]; exact hsz)
/-- a tuple that is data at once -/
theorem r_newTupleD {vs : List Value} {xs : List PyData} {Q : Value → Shared → Prop} (S : St G0 gls x g m news s.heap) (r : RdAll g vs xs)
    (h : ∀ a g' h', VSub g g' → Rd g' (.ref a) (.tuple xs) → St G0 gls x g' m news h' → Q (.ref a) { s with heap := h' }) (hsz : vs.length ≤ sizeLine) : wpAny (model prog w) A (newTuple vs) Q E s := by
  refine wpAny_newObj_type ?_ (by show vs.toArray.size ≤ sizeLine; rw [List.size_toArray]; exact hsz)
  have S1 := S.alloc (o := tupO vs) rfl
  have v := Vis.put_up (o := tupO vs) (S1.none (a := s.heap.objs.size) (.head _))
  exact h _ _ _ v (.tup Vis.put_at (r.up v)) (S1.freeze S.sz)
theorem r_newListD {vs : List Value} {xs : List PyData} {Q : Value → Shared → Prop} (S : St G0 gls x g m news s.heap) (r : RdAll g vs xs)
    (h : ∀ a g' h', VSub g g' → Rd g' (.ref a) (.list xs) → St G0 gls x g' m news h' → Q (.ref a) { s with heap := h' }) (hsz : vs.length ≤ sizeLine) : wpAny (model prog w) A (newList vs) Q E s := by
  refine wpAny_newObj_type ?_ (by show vs.toArray.size ≤ sizeLine; rw [List.size_toArray]; exact hsz)
  have S1 := S.alloc (o := lstO vs 0) rfl
  have v := Vis.put_up (o := lstO vs 0) (S1.none (a := s.heap.objs.size) (.head _))
  exact h _ _ _ v (.lst Vis.put_at (r.up v)) (S1.freeze S.sz)

/-- == of two data -/
theorem r_eq {a b : Value} {da db : PyData} {Q : Value → Shared → Prop} (S : St G0 gls x g m news s.heap) (rm : Rm A d) (ra : Rd g a da) (rb : Rd g b db) (ha : shaped da = true) (hb : shaped db = true)
    (h : Q (.bool (PyData.eqv da db)) s) : wpAny (model prog w) A (compareOp .Eq a b) Q E s :=
  let ⟨_, qa⟩ := ra.reads S.sub; let ⟨_, qb⟩ := rb.reads S.sub; eq_dataH qa qb ha hb rm.units h
theorem r_ne {a b : Value} {da db : PyData} {Q : Value → Shared → Prop} (S : St G0 gls x g m news s.heap) (rm : Rm A d) (ra : Rd g a da) (rb : Rd g b db) (ha : shaped da = true) (hb : shaped db = true)
    (h : Q (.bool (!PyData.eqv da db)) s) : wpAny (model prog w) A (compareOp .NotEq a b) Q E s :=
  let ⟨_, qa⟩ := ra.reads S.sub; let ⟨_, qb⟩ := rb.reads S.sub; ne_dataH qa qb ha hb rm.units h

/-- a list of the ledger -/
theorem r_append {l : Addr} {vs : List Value} {n : Nat} {v : Value} {Q : Value → Shared → Prop} (S : St G0 gls x g m ((l, lstO vs n) :: rest) s.heap)
    (h : ∀ h', St G0 gls x g m ((l, lstO (vs ++ [v]) (n + 1)) :: rest) h' → Q .none { s with heap := h' }) (hsz : vs.length ≤ sizeLine) :
    wpAny (model prog w) A (call (.builtin "list.append") [.ref l, v]) Q E s := by
  refine append_at (hsz := by simpa using hsz) (S.at (.head _)) fun h' hs ho => ?_
  have e : (vs.toArray.push v) = (vs ++ [v]).toArray := by simp
  rw [e] at ho
  exact h h' (S.chg hs ho)
end rules
end Mine
namespace Mine
section calls
variable {prog : Program} {w : World} {A : Around} {E : Value → Shared → Prop} {s : Shared} {env : Env}
theorem callF {pos : Pos} {f : Addr} {o : Obj} {fd : FuncData} {first : List Value} {e : Expr} {rest : List Expr} {Q : Value → Shared → Prop}
    (h : wpAny (model prog w) A (spliced (backTo pos (starEach (e :: rest) env))) (fun vs s₁ => (s₁.heap.get? f = some o ∧ o.data = .func fd) ∧ wpAny (model prog w) A (call (.ref f) (first ++ vs)) Q E s₁) E s)
    (he : starEach (e :: rest) env = (false, eval e env) :: starEach rest env) :
    wpAny (model prog w) A (callWith pos (.ref f) first (backTo pos (starEach (e :: rest) env)) []) Q E s := by
  rw [he] at h ⊢
  exact Calls.callWith_function (Calls.evalArgs_plain h)
theorem callF0 {pos : Pos} {f : Addr} {o : Obj} {fd : FuncData} {first : List Value} {Q : Value → Shared → Prop} (ho : s.heap.get? f = some o) (hd : o.data = .func fd)
    (h : wpAny (model prog w) A (call (.ref f) first) Q E s) : wpAny (model prog w) A (callWith pos (.ref f) first (backTo pos (starEach [] env)) []) Q E s :=
  Calls.callWith_function (evalArgs_nil3 ⟨⟨ho, hd⟩, by simpa using h⟩)
end calls
end Mine

-- KDefs
namespace Mine
noncomputable abbrev pw : Program := PySem.Challenge.pw_nm0144_01
/- the objects of the module's top that the walk reads (printed by tools/genk.py from the run of the top) -/
noncomputable def st1 (i : Nat) : Stmt := (pw.main.body[i]?).getD (.Pass ⟨0, 0, 0, 0⟩)
noncomputable def st2 (i j : Nat) : Stmt := match st1 i with | .ClassDef _ _ _ b _ _ _ _ _ _ _ => (b[j]?).getD (.Pass ⟨0, 0, 0, 0⟩) | _ => .Pass ⟨0, 0, 0, 0⟩
noncomputable def fdOf (st : Stmt) (nm q : Str) (dV pm cd : Value) : FuncData := match st with
  | .FunctionDef _ args body _ _ _ scope _ _ _ => { name := nm, qualname := q, params := args, body := .stmts body, scope, globals := mainGlobals, closure := [], defaults := dV, kwdefaults := .none, doc := .none, pyModule := pm, annotations := none, code := cd, closureTuple := .none, builtins := builtinsNs }
  | _ => default
noncomputable def dE (P : Params) (n : Str) (t : Tok) (v : Value) : DictEntry := ⟨PyData.keyHash P n, .str n t, v⟩
noncomputable def iE (n : Int) (t : Tok) (v : Value) : DictEntry := ⟨n, .int n t, v⟩
noncomputable def o2 (P : Params) : Obj := { cls := .none, data := .dict #[] 0 }
noncomputable def o3 (P : Params) : Obj := { cls := .type "dict", data := .dict #[dE P (Str.ofString "__name__") 165 (.str (Str.ofString "law_nm0144_01") 881), dE P (Str.ofString "__doc__") 166 (.none), dE P (Str.ofString "__package__") 167 (.none), dE P (Str.ofString "__loader__") 168 (.builtin "__main__.__loader__#opaque"), dE P (Str.ofString "__spec__") 169 (.none), dE P (Str.ofString "__annotations__") 170 (.ref 6), dE P (Str.ofString "__builtins__") 171 (.ref 4), dE P (Str.ofString "__file__") 173 (.str (Str.ofString "/claim/cut.py") 172), dE P (Str.ofString "__cached__") 174 (.none), dE P (Str.ofString "_wall") 193 (.ref 21), dE P (Str.ofString "I32") 196 (.int (-1) 195), dE P (Str.ofString "I64") 199 (.int (-2) 198), dE P (Str.ofString "FUNCREF") 202 (.int (-16) 201), dE P (Str.ofString "EMPTY") 205 (.int (-64) 204), dE P (Str.ofString "FUNCTION") 207 (.int (0) 206), dE P (Str.ofString "UNREACHABLE") 211 (.int (0) 210), dE P (Str.ofString "NOP") 213 (.int (1) 212), dE P (Str.ofString "BLOCK") 215 (.int (2) 214), dE P (Str.ofString "LOOP") 217 (.int (3) 216), dE P (Str.ofString "IF") 219 (.int (4) 218), dE P (Str.ofString "ELSE") 221 (.int (5) 220), dE P (Str.ofString "END") 223 (.int (11) 222), dE P (Str.ofString "BR") 225 (.int (12) 224), dE P (Str.ofString "BR_IF") 227 (.int (13) 226), dE P (Str.ofString "BR_TABLE") 229 (.int (14) 228), dE P (Str.ofString "RETURN") 231 (.int (15) 230), dE P (Str.ofString "CALL") 233 (.int (16) 232), dE P (Str.ofString "CALL_INDIRECT") 235 (.int (17) 234), dE P (Str.ofString "RETURN_CALL") 237 (.int (18) 236), dE P (Str.ofString "RETURN_CALL_INDIRECT") 239 (.int (19) 238), dE P (Str.ofString "DROP") 241 (.int (26) 240), dE P (Str.ofString "SELECT") 243 (.int (27) 242), dE P (Str.ofString "SELECT_KINDS") 245 (.int (28) 244), dE P (Str.ofString "LOCAL_GET") 247 (.int (32) 246), dE P (Str.ofString "LOCAL_SET") 249 (.int (33) 248), dE P (Str.ofString "LOCAL_TEE") 251 (.int (34) 250), dE P (Str.ofString "GLOBAL_GET") 253 (.int (35) 252), dE P (Str.ofString "GLOBAL_SET") 255 (.int (36) 254), dE P (Str.ofString "TABLE_GET") 257 (.int (37) 256), dE P (Str.ofString "TABLE_SET") 259 (.int (38) 258), dE P (Str.ofString "MEMORY_SIZE") 261 (.int (63) 260), dE P (Str.ofString "MEMORY_GROW") 263 (.int (64) 262), dE P (Str.ofString "I32_CONST") 265 (.int (65) 264), dE P (Str.ofString "I64_CONST") 267 (.int (66) 266), dE P (Str.ofString "REF_NULL") 269 (.int (208) 268), dE P (Str.ofString "REF_IS_NULL") 271 (.int (209) 270), dE P (Str.ofString "REF_FUNC") 273 (.int (210) 272), dE P (Str.ofString "MEMORY_INIT") 275 (.int (64520) 274), dE P (Str.ofString "DATA_DROP") 277 (.int (64521) 276), dE P (Str.ofString "MEMORY_COPY") 279 (.int (64522) 278), dE P (Str.ofString "MEMORY_FILL") 281 (.int (64523) 280), dE P (Str.ofString "TABLE_INIT") 283 (.int (64524) 282), dE P (Str.ofString "ELEM_DROP") 285 (.int (64525) 284), dE P (Str.ofString "TABLE_COPY") 287 (.int (64526) 286), dE P (Str.ofString "TABLE_GROW") 289 (.int (64527) 288), dE P (Str.ofString "TABLE_SIZE") 291 (.int (64528) 290), dE P (Str.ofString "TABLE_FILL") 293 (.int (64529) 292), dE P (Str.ofString "LOADS") 342 (.ref 22), dE P (Str.ofString "STORES") 364 (.ref 35), dE P (Str.ofString "FIXED") 379 (.ref 43), dE P (Str.ofString "NUMBERS") 404 (.ref 122), dE P (Str.ofString "number_kind") 415 (.ref 129), dE P (Str.ofString "stack_of") 422 (.ref 136), dE P (Str.ofString "LAST") 425 (.ref 137), dE P (Str.ofString "COUNTS") 471 (.ref 138), dE P (Str.ofString "Piece") 525 (.ref 191), dE P (Str.ofString "pieces_of") 536 (.ref 202), dE P (Str.ofString "put_pieces") 545 (.ref 209), dE P (Str.ofString "body_of") 553 (.ref 216), dE P (Str.ofString "is_named") 563 (.ref 223), dE P (Str.ofString "lower_labels") 569 (.ref 228), dE P (Str.ofString "Arities") 648 (.ref 280), dE P (Str.ofString "Import") 692 (.ref 308), dE P (Str.ofString "Func") 732 (.ref 336), dE P (Str.ofString "Module") 874 (.ref 451), dE P (Str.ofString "parts_of") 880 (.ref 460), dE P (Str.ofString "_law_next") 891 (.ref 467), dE P (Str.ofString "_law_spans") 897 (.ref 474), dE P (Str.ofString "_law_label") 904 (.ref 481), dE P (Str.ofString "_law_plain") 910 (.ref 486), dE P (Str.ofString "_law_node") 921 (.ref 493), dE P (Str.ofString "_law_tree") 931 (.ref 500), dE P (Str.ofString "_law_flat") 942 (.ref 507), dE P (Str.ofString "_law_within") 952 (.ref 514), dE P (Str.ofString "_law_reached") 958 (.ref 519), dE P (Str.ofString "_law_lowered") 964 (.ref 524), dE P (Str.ofString "_law_counts") 970 (.ref 529), dE P (Str.ofString "_law_is_right") 976 (.ref 534), dE P (Str.ofString "law") 982 (.ref 539)] 89 }
noncomputable def o22 (P : Params) : Obj := { cls := .type "dict", data := .dict #[iE (40) 294 (.ref 23), iE (41) 297 (.ref 24), iE (44) 300 (.ref 25), iE (45) 303 (.ref 26), iE (46) 306 (.ref 27), iE (47) 309 (.ref 28), iE (48) 312 (.ref 29), iE (49) 315 (.ref 30), iE (50) 318 (.ref 31), iE (51) 321 (.ref 32), iE (52) 324 (.ref 33), iE (53) 327 (.ref 34)] 12 }
noncomputable def o23 : Obj := { cls := .type "tuple", data := .seq #[.int (-1) 195, .int (4) 295, .int (0) 296] 0 }
noncomputable def o24 : Obj := { cls := .type "tuple", data := .seq #[.int (-2) 198, .int (8) 298, .int (0) 299] 0 }
noncomputable def o25 : Obj := { cls := .type "tuple", data := .seq #[.int (-1) 195, .int (1) 301, .int (1) 302] 0 }
noncomputable def o26 : Obj := { cls := .type "tuple", data := .seq #[.int (-1) 195, .int (1) 304, .int (0) 305] 0 }
noncomputable def o27 : Obj := { cls := .type "tuple", data := .seq #[.int (-1) 195, .int (2) 307, .int (1) 308] 0 }
noncomputable def o28 : Obj := { cls := .type "tuple", data := .seq #[.int (-1) 195, .int (2) 310, .int (0) 311] 0 }
noncomputable def o29 : Obj := { cls := .type "tuple", data := .seq #[.int (-2) 198, .int (1) 313, .int (1) 314] 0 }
noncomputable def o30 : Obj := { cls := .type "tuple", data := .seq #[.int (-2) 198, .int (1) 316, .int (0) 317] 0 }
noncomputable def o31 : Obj := { cls := .type "tuple", data := .seq #[.int (-2) 198, .int (2) 319, .int (1) 320] 0 }
noncomputable def o32 : Obj := { cls := .type "tuple", data := .seq #[.int (-2) 198, .int (2) 322, .int (0) 323] 0 }
noncomputable def o33 : Obj := { cls := .type "tuple", data := .seq #[.int (-2) 198, .int (4) 325, .int (1) 326] 0 }
noncomputable def o34 : Obj := { cls := .type "tuple", data := .seq #[.int (-2) 198, .int (4) 328, .int (0) 329] 0 }
noncomputable def o35 (P : Params) : Obj := { cls := .type "dict", data := .dict #[iE (54) 343 (.ref 36), iE (55) 345 (.ref 37), iE (58) 347 (.ref 38), iE (59) 349 (.ref 39), iE (60) 351 (.ref 40), iE (61) 353 (.ref 41), iE (62) 355 (.ref 42)] 7 }
noncomputable def o36 : Obj := { cls := .type "tuple", data := .seq #[.int (-1) 195, .int (4) 344] 0 }
noncomputable def o37 : Obj := { cls := .type "tuple", data := .seq #[.int (-2) 198, .int (8) 346] 0 }
noncomputable def o38 : Obj := { cls := .type "tuple", data := .seq #[.int (-1) 195, .int (1) 348] 0 }
noncomputable def o39 : Obj := { cls := .type "tuple", data := .seq #[.int (-1) 195, .int (2) 350] 0 }
noncomputable def o40 : Obj := { cls := .type "tuple", data := .seq #[.int (-2) 198, .int (1) 352] 0 }
noncomputable def o41 : Obj := { cls := .type "tuple", data := .seq #[.int (-2) 198, .int (2) 354] 0 }
noncomputable def o42 : Obj := { cls := .type "tuple", data := .seq #[.int (-2) 198, .int (4) 356] 0 }
noncomputable def o43 (P : Params) : Obj := { cls := .type "dict", data := .dict #[iE (1) 212 (.ref 46), iE (63) 260 (.ref 49), iE (64) 262 (.ref 52), iE (65) 264 (.ref 55), iE (66) 266 (.ref 58), iE (210) 272 (.ref 61), iE (64520) 274 (.ref 64), iE (64521) 276 (.ref 67), iE (64522) 278 (.ref 70), iE (64523) 280 (.ref 73), iE (64524) 282 (.ref 76), iE (64525) 284 (.ref 79), iE (64526) 286 (.ref 82), iE (64528) 290 (.ref 85)] 14 }
noncomputable def o44 : Obj := { cls := .type "tuple", data := .seq #[] 0 }
noncomputable def o45 : Obj := { cls := .type "tuple", data := .seq #[] 0 }
noncomputable def o46 : Obj := { cls := .type "tuple", data := .seq #[.ref 44, .ref 45] 0 }
noncomputable def o47 : Obj := { cls := .type "tuple", data := .seq #[] 0 }
noncomputable def o48 : Obj := { cls := .type "tuple", data := .seq #[.int (-1) 195] 0 }
noncomputable def o49 : Obj := { cls := .type "tuple", data := .seq #[.ref 47, .ref 48] 0 }
noncomputable def o50 : Obj := { cls := .type "tuple", data := .seq #[.int (-1) 195] 0 }
noncomputable def o51 : Obj := { cls := .type "tuple", data := .seq #[.int (-1) 195] 0 }
noncomputable def o52 : Obj := { cls := .type "tuple", data := .seq #[.ref 50, .ref 51] 0 }
noncomputable def o53 : Obj := { cls := .type "tuple", data := .seq #[] 0 }
noncomputable def o54 : Obj := { cls := .type "tuple", data := .seq #[.int (-1) 195] 0 }
noncomputable def o55 : Obj := { cls := .type "tuple", data := .seq #[.ref 53, .ref 54] 0 }
noncomputable def o56 : Obj := { cls := .type "tuple", data := .seq #[] 0 }
noncomputable def o57 : Obj := { cls := .type "tuple", data := .seq #[.int (-2) 198] 0 }
noncomputable def o58 : Obj := { cls := .type "tuple", data := .seq #[.ref 56, .ref 57] 0 }
noncomputable def o59 : Obj := { cls := .type "tuple", data := .seq #[] 0 }
noncomputable def o60 : Obj := { cls := .type "tuple", data := .seq #[.int (-16) 201] 0 }
noncomputable def o61 : Obj := { cls := .type "tuple", data := .seq #[.ref 59, .ref 60] 0 }
noncomputable def o62 : Obj := { cls := .type "tuple", data := .seq #[.int (-1) 195, .int (-1) 195, .int (-1) 195] 0 }
noncomputable def o63 : Obj := { cls := .type "tuple", data := .seq #[] 0 }
noncomputable def o64 : Obj := { cls := .type "tuple", data := .seq #[.ref 62, .ref 63] 0 }
noncomputable def o65 : Obj := { cls := .type "tuple", data := .seq #[] 0 }
noncomputable def o66 : Obj := { cls := .type "tuple", data := .seq #[] 0 }
noncomputable def o67 : Obj := { cls := .type "tuple", data := .seq #[.ref 65, .ref 66] 0 }
noncomputable def o68 : Obj := { cls := .type "tuple", data := .seq #[.int (-1) 195, .int (-1) 195, .int (-1) 195] 0 }
noncomputable def o69 : Obj := { cls := .type "tuple", data := .seq #[] 0 }
noncomputable def o70 : Obj := { cls := .type "tuple", data := .seq #[.ref 68, .ref 69] 0 }
noncomputable def o71 : Obj := { cls := .type "tuple", data := .seq #[.int (-1) 195, .int (-1) 195, .int (-1) 195] 0 }
noncomputable def o72 : Obj := { cls := .type "tuple", data := .seq #[] 0 }
noncomputable def o73 : Obj := { cls := .type "tuple", data := .seq #[.ref 71, .ref 72] 0 }
noncomputable def o74 : Obj := { cls := .type "tuple", data := .seq #[.int (-1) 195, .int (-1) 195, .int (-1) 195] 0 }
noncomputable def o75 : Obj := { cls := .type "tuple", data := .seq #[] 0 }
noncomputable def o76 : Obj := { cls := .type "tuple", data := .seq #[.ref 74, .ref 75] 0 }
noncomputable def o77 : Obj := { cls := .type "tuple", data := .seq #[] 0 }
noncomputable def o78 : Obj := { cls := .type "tuple", data := .seq #[] 0 }
noncomputable def o79 : Obj := { cls := .type "tuple", data := .seq #[.ref 77, .ref 78] 0 }
noncomputable def o80 : Obj := { cls := .type "tuple", data := .seq #[.int (-1) 195, .int (-1) 195, .int (-1) 195] 0 }
noncomputable def o81 : Obj := { cls := .type "tuple", data := .seq #[] 0 }
noncomputable def o82 : Obj := { cls := .type "tuple", data := .seq #[.ref 80, .ref 81] 0 }
noncomputable def o83 : Obj := { cls := .type "tuple", data := .seq #[] 0 }
noncomputable def o84 : Obj := { cls := .type "tuple", data := .seq #[.int (-1) 195] 0 }
noncomputable def o85 : Obj := { cls := .type "tuple", data := .seq #[.ref 83, .ref 84] 0 }
noncomputable def o86 : Obj := { cls := .type "tuple", data := .seq #[.int (-1) 195] 0 }
noncomputable def o87 : Obj := { cls := .type "tuple", data := .seq #[.int (-1) 195] 0 }
noncomputable def o88 : Obj := { cls := .type "tuple", data := .seq #[.int (69) 380, .int (69) 381, .ref 86, .ref 87] 0 }
noncomputable def o89 : Obj := { cls := .type "tuple", data := .seq #[.int (-1) 195, .int (-1) 195] 0 }
noncomputable def o90 : Obj := { cls := .type "tuple", data := .seq #[.int (-1) 195] 0 }
noncomputable def o91 : Obj := { cls := .type "tuple", data := .seq #[.int (70) 382, .int (79) 383, .ref 89, .ref 90] 0 }
noncomputable def o92 : Obj := { cls := .type "tuple", data := .seq #[.int (-2) 198] 0 }
noncomputable def o93 : Obj := { cls := .type "tuple", data := .seq #[.int (-1) 195] 0 }
noncomputable def o94 : Obj := { cls := .type "tuple", data := .seq #[.int (80) 384, .int (80) 385, .ref 92, .ref 93] 0 }
noncomputable def o95 : Obj := { cls := .type "tuple", data := .seq #[.int (-2) 198, .int (-2) 198] 0 }
noncomputable def o96 : Obj := { cls := .type "tuple", data := .seq #[.int (-1) 195] 0 }
noncomputable def o97 : Obj := { cls := .type "tuple", data := .seq #[.int (81) 386, .int (90) 387, .ref 95, .ref 96] 0 }
noncomputable def o98 : Obj := { cls := .type "tuple", data := .seq #[.int (-1) 195] 0 }
noncomputable def o99 : Obj := { cls := .type "tuple", data := .seq #[.int (-1) 195] 0 }
noncomputable def o100 : Obj := { cls := .type "tuple", data := .seq #[.int (103) 388, .int (105) 389, .ref 98, .ref 99] 0 }
noncomputable def o101 : Obj := { cls := .type "tuple", data := .seq #[.int (-1) 195, .int (-1) 195] 0 }
noncomputable def o102 : Obj := { cls := .type "tuple", data := .seq #[.int (-1) 195] 0 }
noncomputable def o103 : Obj := { cls := .type "tuple", data := .seq #[.int (106) 390, .int (120) 391, .ref 101, .ref 102] 0 }
noncomputable def o104 : Obj := { cls := .type "tuple", data := .seq #[.int (-2) 198] 0 }
noncomputable def o105 : Obj := { cls := .type "tuple", data := .seq #[.int (-2) 198] 0 }
noncomputable def o106 : Obj := { cls := .type "tuple", data := .seq #[.int (121) 392, .int (123) 393, .ref 104, .ref 105] 0 }
noncomputable def o107 : Obj := { cls := .type "tuple", data := .seq #[.int (-2) 198, .int (-2) 198] 0 }
noncomputable def o108 : Obj := { cls := .type "tuple", data := .seq #[.int (-2) 198] 0 }
noncomputable def o109 : Obj := { cls := .type "tuple", data := .seq #[.int (124) 394, .int (138) 395, .ref 107, .ref 108] 0 }
noncomputable def o110 : Obj := { cls := .type "tuple", data := .seq #[.int (-2) 198] 0 }
noncomputable def o111 : Obj := { cls := .type "tuple", data := .seq #[.int (-1) 195] 0 }
noncomputable def o112 : Obj := { cls := .type "tuple", data := .seq #[.int (167) 396, .int (167) 397, .ref 110, .ref 111] 0 }
noncomputable def o113 : Obj := { cls := .type "tuple", data := .seq #[.int (-1) 195] 0 }
noncomputable def o114 : Obj := { cls := .type "tuple", data := .seq #[.int (-2) 198] 0 }
noncomputable def o115 : Obj := { cls := .type "tuple", data := .seq #[.int (172) 398, .int (173) 399, .ref 113, .ref 114] 0 }
noncomputable def o116 : Obj := { cls := .type "tuple", data := .seq #[.int (-1) 195] 0 }
noncomputable def o117 : Obj := { cls := .type "tuple", data := .seq #[.int (-1) 195] 0 }
noncomputable def o118 : Obj := { cls := .type "tuple", data := .seq #[.int (192) 400, .int (193) 401, .ref 116, .ref 117] 0 }
noncomputable def o119 : Obj := { cls := .type "tuple", data := .seq #[.int (-2) 198] 0 }
noncomputable def o120 : Obj := { cls := .type "tuple", data := .seq #[.int (-2) 198] 0 }
noncomputable def o121 : Obj := { cls := .type "tuple", data := .seq #[.int (194) 402, .int (196) 403, .ref 119, .ref 120] 0 }
noncomputable def o122 : Obj := { cls := .type "tuple", data := .seq #[.ref 88, .ref 91, .ref 94, .ref 97, .ref 100, .ref 103, .ref 106, .ref 109, .ref 112, .ref 115, .ref 118, .ref 121] 0 }
noncomputable def o128 : Obj := { cls := .type "code", data := .fields #[.str (Str.ofString "number_kind") 405, .str (Str.ofString "number_kind") 406, .str (Str.ofString "/claim/cut.py") 407, .int (56) 0, .int (1) 0, .int (0) 0, .int (0) 0, .int (3) 0, .ref 123, .bool true, .int (181) 0, .ref 124, .none, .ref 125, .ref 126, .ref 127, .int (413) 0, .int (56) 0, .str (Str.ofString "/claim/cut.py") 414] }
noncomputable def fd129 : FuncData := fdOf (st1 53) "number_kind" "number_kind" (.none) (.str (Str.ofString "wasmcore.codes") 208) (.ref 128)
noncomputable def o129 : Obj := { cls := .type "function", data := .func fd129 }
noncomputable def o135 : Obj := { cls := .type "code", data := .fields #[.str (Str.ofString "stack_of") 416, .str (Str.ofString "stack_of") 417, .str (Str.ofString "/claim/cut.py") 418, .int (61) 0, .int (1) 0, .int (0) 0, .int (0) 0, .int (3) 0, .ref 130, .bool true, .int (181) 0, .ref 131, .none, .ref 132, .ref 133, .ref 134, .int (420) 0, .int (61) 0, .str (Str.ofString "/claim/cut.py") 421] }
noncomputable def fd136 : FuncData := fdOf (st1 54) "stack_of" "stack_of" (.none) (.str (Str.ofString "wasmcore.codes") 208) (.ref 135)
noncomputable def o136 : Obj := { cls := .type "function", data := .func fd136 }
noncomputable def o137 : Obj := { cls := .type "tuple", data := .seq #[.int (0) 210, .int (12) 224, .int (14) 228, .int (15) 230, .int (18) 236, .int (19) 238] 0 }
noncomputable def o138 (P : Params) : Obj := { cls := .type "dict", data := .dict #[iE (13) 226 (.ref 139), iE (26) 240 (.ref 140), iE (27) 242 (.ref 141), iE (28) 244 (.ref 142), iE (32) 246 (.ref 143), iE (33) 248 (.ref 144), iE (34) 250 (.ref 145), iE (35) 252 (.ref 146), iE (36) 254 (.ref 147), iE (37) 256 (.ref 148), iE (38) 258 (.ref 149), iE (208) 268 (.ref 150), iE (209) 270 (.ref 151), iE (64527) 288 (.ref 152), iE (64529) 292 (.ref 153)] 15 }
noncomputable def o139 : Obj := { cls := .type "tuple", data := .seq #[.int (1) 426, .int (0) 427] 0 }
noncomputable def o140 : Obj := { cls := .type "tuple", data := .seq #[.int (1) 428, .int (0) 429] 0 }
noncomputable def o141 : Obj := { cls := .type "tuple", data := .seq #[.int (3) 430, .int (1) 431] 0 }
noncomputable def o142 : Obj := { cls := .type "tuple", data := .seq #[.int (3) 432, .int (1) 433] 0 }
noncomputable def o143 : Obj := { cls := .type "tuple", data := .seq #[.int (0) 434, .int (1) 435] 0 }
noncomputable def o144 : Obj := { cls := .type "tuple", data := .seq #[.int (1) 436, .int (0) 437] 0 }
noncomputable def o145 : Obj := { cls := .type "tuple", data := .seq #[.int (1) 438, .int (1) 439] 0 }
noncomputable def o146 : Obj := { cls := .type "tuple", data := .seq #[.int (0) 440, .int (1) 441] 0 }
noncomputable def o147 : Obj := { cls := .type "tuple", data := .seq #[.int (1) 442, .int (0) 443] 0 }
noncomputable def o148 : Obj := { cls := .type "tuple", data := .seq #[.int (1) 444, .int (1) 445] 0 }
noncomputable def o149 : Obj := { cls := .type "tuple", data := .seq #[.int (2) 446, .int (0) 447] 0 }
noncomputable def o150 : Obj := { cls := .type "tuple", data := .seq #[.int (0) 448, .int (1) 449] 0 }
noncomputable def o151 : Obj := { cls := .type "tuple", data := .seq #[.int (1) 450, .int (1) 451] 0 }
noncomputable def o152 : Obj := { cls := .type "tuple", data := .seq #[.int (2) 452, .int (1) 453] 0 }
noncomputable def o153 : Obj := { cls := .type "tuple", data := .seq #[.int (3) 454, .int (0) 455] 0 }
noncomputable def o161 : Obj := { cls := .type "tuple", data := .seq #[.none, .none] 0 }
noncomputable def o167 : Obj := { cls := .type "code", data := .fields #[.str (Str.ofString "__init__") 484, .str (Str.ofString "Piece.__init__") 485, .str (Str.ofString "/claim/cut.py") 486, .int (74) 0, .int (4) 0, .int (0) 0, .int (0) 0, .int (3) 0, .ref 162, .bool true, .int (181) 0, .ref 163, .none, .ref 164, .ref 165, .ref 166, .int (491) 0, .int (74) 0, .str (Str.ofString "/claim/cut.py") 492] }
noncomputable def fd168 : FuncData := fdOf (st2 58 0) "__init__" "Piece.__init__" (.ref 161) (.str (Str.ofString "wasmcore.pieces") 423) (.ref 167)
noncomputable def o168 : Obj := { cls := .type "function", data := .func fd168 }
noncomputable def o174 : Obj := { cls := .type "code", data := .fields #[.str (Str.ofString "code") 494, .str (Str.ofString "Piece.code") 495, .str (Str.ofString "/claim/cut.py") 496, .int (79) 0, .int (1) 0, .int (0) 0, .int (0) 0, .int (3) 0, .ref 169, .bool true, .int (181) 0, .ref 170, .none, .ref 171, .ref 172, .ref 173, .int (498) 0, .int (79) 0, .str (Str.ofString "/claim/cut.py") 499] }
noncomputable def fd175 : FuncData := fdOf (st2 58 1) "code" "Piece.code" (.none) (.str (Str.ofString "wasmcore.pieces") 423) (.ref 174)
noncomputable def o175 : Obj := { cls := .type "function", data := .func fd175 }
noncomputable def o176 : Obj := { cls := .type "property", data := .fields #[.ref 175, .none, .none, .none, .str (Str.ofString "code") 501, .bool false] }
noncomputable def o180 : Obj := { cls := .type "code", data := .fields #[.str (Str.ofString "parts") 502, .str (Str.ofString "Piece.parts") 503, .str (Str.ofString "/claim/cut.py") 504, .int (83) 0, .int (1) 0, .int (0) 0, .int (0) 0, .int (3) 0, .ref 177, .bool true, .int (181) 0, .ref 178, .none, .none, .none, .ref 179, .int (505) 0, .int (83) 0, .str (Str.ofString "/claim/cut.py") 506] }
noncomputable def fd181 : FuncData := fdOf (st2 58 2) "parts" "Piece.parts" (.none) (.str (Str.ofString "wasmcore.pieces") 423) (.ref 180)
noncomputable def o181 : Obj := { cls := .type "function", data := .func fd181 }
noncomputable def o187 : Obj := { cls := .type "code", data := .fields #[.str (Str.ofString "labels") 508, .str (Str.ofString "Piece.labels") 509, .str (Str.ofString "/claim/cut.py") 510, .int (86) 0, .int (1) 0, .int (0) 0, .int (0) 0, .int (3) 0, .ref 182, .bool true, .int (181) 0, .ref 183, .none, .ref 184, .ref 185, .ref 186, .int (512) 0, .int (86) 0, .str (Str.ofString "/claim/cut.py") 513] }
noncomputable def fd188 : FuncData := fdOf (st2 58 3) "labels" "Piece.labels" (.none) (.str (Str.ofString "wasmcore.pieces") 423) (.ref 187)
noncomputable def o188 : Obj := { cls := .type "function", data := .func fd188 }
noncomputable def o190 (P : Params) : Obj := { cls := .type "dict", data := .dict #[dE P (Str.ofString "__module__") 479 (.str (Str.ofString "wasmcore.pieces") 423), dE P (Str.ofString "__firstlineno__") 483 (.int (72) 482), dE P (Str.ofString "__init__") 493 (.ref 168), dE P (Str.ofString "code") 501 (.ref 176), dE P (Str.ofString "parts") 507 (.ref 181), dE P (Str.ofString "labels") 514 (.ref 188), dE P (Str.ofString "__static_attributes__") 518 (.ref 189), dE P (Str.ofString "__dict__") 520 (.ref 192), dE P (Str.ofString "__weakref__") 522 (.ref 193), dE P (Str.ofString "__doc__") 523 (.none)] 4 }
noncomputable def o191 : Obj := { cls := .type "type", data := .cls { name := "Piece", bases := [.type "object"], mro := [.ref 191, .type "object"], ns := 190, qualname := "Piece" }, slots := #[none, none, some (.str (Str.ofString "Piece") 472), some (.str (Str.ofString "Piece") 480), some (.builtin "object.__new__"), some (.bool true)] }
noncomputable def o201 : Obj := { cls := .type "code", data := .fields #[.str (Str.ofString "pieces_of") 526, .str (Str.ofString "pieces_of") 527, .str (Str.ofString "/claim/cut.py") 528, .int (88) 0, .int (1) 0, .int (0) 0, .int (0) 0, .int (3) 0, .ref 196, .bool true, .int (181) 0, .ref 197, .none, .ref 198, .ref 199, .ref 200, .int (534) 0, .int (88) 0, .str (Str.ofString "/claim/cut.py") 535] }
noncomputable def fd202 : FuncData := fdOf (st1 59) "pieces_of" "pieces_of" (.none) (.str (Str.ofString "wasmcore.pieces") 423) (.ref 201)
noncomputable def o202 : Obj := { cls := .type "function", data := .func fd202 }
noncomputable def o208 : Obj := { cls := .type "code", data := .fields #[.str (Str.ofString "put_pieces") 537, .str (Str.ofString "put_pieces") 538, .str (Str.ofString "/claim/cut.py") 539, .int (105) 0, .int (2) 0, .int (0) 0, .int (0) 0, .int (3) 0, .ref 203, .bool true, .int (181) 0, .ref 204, .none, .ref 205, .ref 206, .ref 207, .int (543) 0, .int (105) 0, .str (Str.ofString "/claim/cut.py") 544] }
noncomputable def fd209 : FuncData := fdOf (st1 60) "put_pieces" "put_pieces" (.none) (.str (Str.ofString "wasmcore.pieces") 423) (.ref 208)
noncomputable def o209 : Obj := { cls := .type "function", data := .func fd209 }
noncomputable def o215 : Obj := { cls := .type "code", data := .fields #[.str (Str.ofString "body_of") 546, .str (Str.ofString "body_of") 547, .str (Str.ofString "/claim/cut.py") 548, .int (114) 0, .int (1) 0, .int (0) 0, .int (0) 0, .int (3) 0, .ref 210, .bool true, .int (181) 0, .ref 211, .none, .ref 212, .ref 213, .ref 214, .int (551) 0, .int (114) 0, .str (Str.ofString "/claim/cut.py") 552] }
noncomputable def fd216 : FuncData := fdOf (st1 61) "body_of" "body_of" (.none) (.str (Str.ofString "wasmcore.pieces") 423) (.ref 215)
noncomputable def o216 : Obj := { cls := .type "function", data := .func fd216 }
noncomputable def o222 : Obj := { cls := .type "code", data := .fields #[.str (Str.ofString "is_named") 554, .str (Str.ofString "is_named") 555, .str (Str.ofString "/claim/cut.py") 556, .int (119) 0, .int (2) 0, .int (0) 0, .int (0) 0, .int (3) 0, .ref 217, .bool true, .int (181) 0, .ref 218, .none, .ref 219, .ref 220, .ref 221, .int (561) 0, .int (119) 0, .str (Str.ofString "/claim/cut.py") 562] }
noncomputable def fd223 : FuncData := fdOf (st1 62) "is_named" "is_named" (.none) (.str (Str.ofString "wasmcore.pieces") 423) (.ref 222)
noncomputable def o223 : Obj := { cls := .type "function", data := .func fd223 }
noncomputable def o227 : Obj := { cls := .type "code", data := .fields #[.str (Str.ofString "lower_labels") 564, .str (Str.ofString "lower_labels") 565, .str (Str.ofString "/claim/cut.py") 566, .int (127) 0, .int (2) 0, .int (0) 0, .int (0) 0, .int (3) 0, .ref 224, .bool true, .int (181) 0, .ref 225, .none, .none, .none, .ref 226, .int (567) 0, .int (127) 0, .str (Str.ofString "/claim/cut.py") 568] }
noncomputable def fd228 : FuncData := fdOf (st1 63) "lower_labels" "lower_labels" (.none) (.str (Str.ofString "wasmcore.pieces") 423) (.ref 227)
noncomputable def o228 : Obj := { cls := .type "function", data := .func fd228 }
noncomputable def o241 : Obj := { cls := .type "code", data := .fields #[.str (Str.ofString "__init__") 582, .str (Str.ofString "Arities.__init__") 583, .str (Str.ofString "/claim/cut.py") 584, .int (135) 0, .int (2) 0, .int (0) 0, .int (0) 0, .int (3) 0, .ref 236, .bool true, .int (181) 0, .ref 237, .none, .ref 238, .ref 239, .ref 240, .int (587) 0, .int (135) 0, .str (Str.ofString "/claim/cut.py") 588] }
noncomputable def fd242 : FuncData := fdOf (st2 64 0) "__init__" "Arities.__init__" (.none) (.str (Str.ofString "wasmcore.pieces") 423) (.ref 241)
noncomputable def o242 : Obj := { cls := .type "function", data := .func fd242 }
noncomputable def o248 : Obj := { cls := .type "code", data := .fields #[.str (Str.ofString "of_kind") 590, .str (Str.ofString "Arities.of_kind") 591, .str (Str.ofString "/claim/cut.py") 592, .int (139) 0, .int (2) 0, .int (0) 0, .int (0) 0, .int (3) 0, .ref 243, .bool true, .int (181) 0, .ref 244, .none, .ref 245, .ref 246, .ref 247, .int (597) 0, .int (139) 0, .str (Str.ofString "/claim/cut.py") 598] }
noncomputable def fd249 : FuncData := fdOf (st2 64 1) "of_kind" "Arities.of_kind" (.none) (.str (Str.ofString "wasmcore.pieces") 423) (.ref 248)
noncomputable def o249 : Obj := { cls := .type "function", data := .func fd249 }
noncomputable def o255 : Obj := { cls := .type "code", data := .fields #[.str (Str.ofString "of_block") 600, .str (Str.ofString "Arities.of_block") 601, .str (Str.ofString "/claim/cut.py") 602, .int (143) 0, .int (2) 0, .int (0) 0, .int (0) 0, .int (3) 0, .ref 250, .bool true, .int (181) 0, .ref 251, .none, .ref 252, .ref 253, .ref 254, .int (605) 0, .int (143) 0, .str (Str.ofString "/claim/cut.py") 606] }
noncomputable def fd256 : FuncData := fdOf (st2 64 2) "of_block" "Arities.of_block" (.none) (.str (Str.ofString "wasmcore.pieces") 423) (.ref 255)
noncomputable def o256 : Obj := { cls := .type "function", data := .func fd256 }
noncomputable def o262 : Obj := { cls := .type "code", data := .fields #[.str (Str.ofString "of") 608, .str (Str.ofString "Arities.of") 609, .str (Str.ofString "/claim/cut.py") 610, .int (148) 0, .int (2) 0, .int (0) 0, .int (0) 0, .int (3) 0, .ref 257, .bool true, .int (181) 0, .ref 258, .none, .ref 259, .ref 260, .ref 261, .int (615) 0, .int (148) 0, .str (Str.ofString "/claim/cut.py") 616] }
noncomputable def fd263 : FuncData := fdOf (st2 64 3) "of" "Arities.of" (.none) (.str (Str.ofString "wasmcore.pieces") 423) (.ref 262)
noncomputable def o263 : Obj := { cls := .type "function", data := .func fd263 }
noncomputable def o269 : Obj := { cls := .type "code", data := .fields #[.str (Str.ofString "behind") 618, .str (Str.ofString "Arities.behind") 619, .str (Str.ofString "/claim/cut.py") 620, .int (159) 0, .int (3) 0, .int (0) 0, .int (0) 0, .int (3) 0, .ref 264, .bool true, .int (181) 0, .ref 265, .none, .ref 266, .ref 267, .ref 268, .int (626) 0, .int (159) 0, .str (Str.ofString "/claim/cut.py") 627] }
noncomputable def fd270 : FuncData := fdOf (st2 64 4) "behind" "Arities.behind" (.none) (.str (Str.ofString "wasmcore.pieces") 423) (.ref 269)
noncomputable def o270 : Obj := { cls := .type "function", data := .func fd270 }
noncomputable def o276 : Obj := { cls := .type "code", data := .fields #[.str (Str.ofString "behind_all") 629, .str (Str.ofString "Arities.behind_all") 630, .str (Str.ofString "/claim/cut.py") 631, .int (168) 0, .int (3) 0, .int (0) 0, .int (0) 0, .int (3) 0, .ref 271, .bool true, .int (181) 0, .ref 272, .none, .ref 273, .ref 274, .ref 275, .int (636) 0, .int (168) 0, .str (Str.ofString "/claim/cut.py") 637] }
noncomputable def fd277 : FuncData := fdOf (st2 64 5) "behind_all" "Arities.behind_all" (.none) (.str (Str.ofString "wasmcore.pieces") 423) (.ref 276)
noncomputable def o277 : Obj := { cls := .type "function", data := .func fd277 }
noncomputable def o279 (P : Params) : Obj := { cls := .type "dict", data := .dict #[dE P (Str.ofString "__module__") 577 (.str (Str.ofString "wasmcore.pieces") 423), dE P (Str.ofString "__firstlineno__") 581 (.int (133) 580), dE P (Str.ofString "__init__") 589 (.ref 242), dE P (Str.ofString "of_kind") 599 (.ref 249), dE P (Str.ofString "of_block") 607 (.ref 256), dE P (Str.ofString "of") 617 (.ref 263), dE P (Str.ofString "behind") 628 (.ref 270), dE P (Str.ofString "behind_all") 638 (.ref 277), dE P (Str.ofString "__static_attributes__") 641 (.ref 278), dE P (Str.ofString "__dict__") 643 (.ref 281), dE P (Str.ofString "__weakref__") 645 (.ref 282), dE P (Str.ofString "__doc__") 646 (.none)] 4 }
noncomputable def o280 : Obj := { cls := .type "type", data := .cls { name := "Arities", bases := [.type "object"], mro := [.ref 280, .type "object"], ns := 279, qualname := "Arities" }, slots := #[none, none, some (.str (Str.ofString "Arities") 570), some (.str (Str.ofString "Arities") 578), some (.builtin "object.__new__"), some (.bool true)] }
noncomputable def o297 : Obj := { cls := .type "code", data := .fields #[.str (Str.ofString "__init__") 663, .str (Str.ofString "Import.__init__") 664, .str (Str.ofString "/claim/cut.py") 665, .int (177) 0, .int (5) 0, .int (0) 0, .int (0) 0, .int (3) 0, .ref 292, .bool true, .int (181) 0, .ref 293, .none, .ref 294, .ref 295, .ref 296, .int (671) 0, .int (177) 0, .str (Str.ofString "/claim/cut.py") 672] }
noncomputable def fd298 : FuncData := fdOf (st2 66 0) "__init__" "Import.__init__" (.none) (.str (Str.ofString "wasmcore.modules") 649) (.ref 297)
noncomputable def o298 : Obj := { cls := .type "function", data := .func fd298 }
noncomputable def o307 (P : Params) : Obj := { cls := .type "dict", data := .dict #[dE P (Str.ofString "__module__") 658 (.str (Str.ofString "wasmcore.modules") 649), dE P (Str.ofString "__firstlineno__") 662 (.int (175) 661), dE P (Str.ofString "__init__") 673 (.ref 298), dE P (Str.ofString "plain") 680 (.ref 305), dE P (Str.ofString "__static_attributes__") 685 (.ref 306), dE P (Str.ofString "__dict__") 687 (.ref 309), dE P (Str.ofString "__weakref__") 689 (.ref 310), dE P (Str.ofString "__doc__") 690 (.none)] 4 }
noncomputable def o308 : Obj := { cls := .type "type", data := .cls { name := "Import", bases := [.type "object"], mro := [.ref 308, .type "object"], ns := 307, qualname := "Import" }, slots := #[none, none, some (.str (Str.ofString "Import") 651), some (.str (Str.ofString "Import") 659), some (.builtin "object.__new__"), some (.bool true)] }
noncomputable def o325 : Obj := { cls := .type "code", data := .fields #[.str (Str.ofString "__init__") 705, .str (Str.ofString "Func.__init__") 706, .str (Str.ofString "/claim/cut.py") 707, .int (187) 0, .int (4) 0, .int (0) 0, .int (0) 0, .int (3) 0, .ref 320, .bool true, .int (181) 0, .ref 321, .none, .ref 322, .ref 323, .ref 324, .int (712) 0, .int (187) 0, .str (Str.ofString "/claim/cut.py") 713] }
noncomputable def fd326 : FuncData := fdOf (st2 67 0) "__init__" "Func.__init__" (.none) (.str (Str.ofString "wasmcore.modules") 649) (.ref 325)
noncomputable def o326 : Obj := { cls := .type "function", data := .func fd326 }
noncomputable def o335 (P : Params) : Obj := { cls := .type "dict", data := .dict #[dE P (Str.ofString "__module__") 700 (.str (Str.ofString "wasmcore.modules") 649), dE P (Str.ofString "__firstlineno__") 704 (.int (185) 703), dE P (Str.ofString "__init__") 714 (.ref 326), dE P (Str.ofString "plain") 721 (.ref 333), dE P (Str.ofString "__static_attributes__") 725 (.ref 334), dE P (Str.ofString "__dict__") 727 (.ref 337), dE P (Str.ofString "__weakref__") 729 (.ref 338), dE P (Str.ofString "__doc__") 730 (.none)] 4 }
noncomputable def o336 : Obj := { cls := .type "type", data := .cls { name := "Func", bases := [.type "object"], mro := [.ref 336, .type "object"], ns := 335, qualname := "Func" }, slots := #[none, none, some (.str (Str.ofString "Func") 693), some (.str (Str.ofString "Func") 701), some (.builtin "object.__new__"), some (.bool true)] }
noncomputable def o353 : Obj := { cls := .type "code", data := .fields #[.str (Str.ofString "__init__") 745, .str (Str.ofString "Module.__init__") 746, .str (Str.ofString "/claim/cut.py") 747, .int (196) 0, .int (1) 0, .int (0) 0, .int (0) 0, .int (3) 0, .ref 348, .bool true, .int (181) 0, .ref 349, .none, .ref 350, .ref 351, .ref 352, .int (749) 0, .int (196) 0, .str (Str.ofString "/claim/cut.py") 750] }
noncomputable def fd354 : FuncData := fdOf (st2 68 0) "__init__" "Module.__init__" (.none) (.str (Str.ofString "wasmcore.modules") 649) (.ref 353)
noncomputable def o354 : Obj := { cls := .type "function", data := .func fd354 }
noncomputable def o365 : Obj := { cls := .type "code", data := .fields #[.str (Str.ofString "abouts") 760, .str (Str.ofString "Module.abouts") 761, .str (Str.ofString "/claim/cut.py") 762, .int (212) 0, .int (2) 0, .int (0) 0, .int (0) 0, .int (3) 0, .ref 362, .bool true, .int (181) 0, .ref 363, .none, .none, .none, .ref 364, .int (763) 0, .int (212) 0, .str (Str.ofString "/claim/cut.py") 764] }
noncomputable def fd366 : FuncData := fdOf (st2 68 2) "abouts" "Module.abouts" (.none) (.str (Str.ofString "wasmcore.modules") 649) (.ref 365)
noncomputable def o366 : Obj := { cls := .type "function", data := .func fd366 }
noncomputable def o370 : Obj := { cls := .type "code", data := .fields #[.str (Str.ofString "func_kinds") 766, .str (Str.ofString "Module.func_kinds") 767, .str (Str.ofString "/claim/cut.py") 768, .int (215) 0, .int (1) 0, .int (0) 0, .int (0) 0, .int (3) 0, .ref 367, .bool true, .int (181) 0, .ref 368, .none, .none, .none, .ref 369, .int (769) 0, .int (215) 0, .str (Str.ofString "/claim/cut.py") 770] }
noncomputable def fd371 : FuncData := fdOf (st2 68 3) "func_kinds" "Module.func_kinds" (.none) (.str (Str.ofString "wasmcore.modules") 649) (.ref 370)
noncomputable def o371 : Obj := { cls := .type "function", data := .func fd371 }
noncomputable def o450 (P : Params) : Obj := { cls := .type "dict", data := .dict #[dE P (Str.ofString "__module__") 740 (.str (Str.ofString "wasmcore.modules") 649), dE P (Str.ofString "__firstlineno__") 744 (.int (194) 743), dE P (Str.ofString "__init__") 751 (.ref 354), dE P (Str.ofString "imported") 759 (.ref 361), dE P (Str.ofString "abouts") 765 (.ref 366), dE P (Str.ofString "func_kinds") 771 (.ref 371), dE P (Str.ofString "table_kinds") 778 (.ref 378), dE P (Str.ofString "memory_kinds") 785 (.ref 385), dE P (Str.ofString "global_kinds") 792 (.ref 392), dE P (Str.ofString "many") 801 (.ref 399), dE P (Str.ofString "func") 810 (.ref 406), dE P (Str.ofString "kind_of_func") 818 (.ref 413), dE P (Str.ofString "export") 826 (.ref 420), dE P (Str.ofString "plain") 834 (.ref 427), dE P (Str.ofString "bodies") 841 (.ref 434), dE P (Str.ofString "constants") 848 (.ref 441), dE P (Str.ofString "copy") 855 (.ref 448), dE P (Str.ofString "__static_attributes__") 867 (.ref 449), dE P (Str.ofString "__dict__") 869 (.ref 452), dE P (Str.ofString "__weakref__") 871 (.ref 453), dE P (Str.ofString "__doc__") 872 (.none)] 4 }
noncomputable def o451 : Obj := { cls := .type "type", data := .cls { name := "Module", bases := [.type "object"], mro := [.ref 451, .type "object"], ns := 450, qualname := "Module" }, slots := #[none, none, some (.str (Str.ofString "Module") 733), some (.str (Str.ofString "Module") 741), some (.builtin "object.__new__"), some (.bool true)] }
noncomputable def o466 : Obj := { cls := .type "code", data := .fields #[.str (Str.ofString "_law_next") 883, .str (Str.ofString "_law_next") 884, .str (Str.ofString "/claim/cut.py") 885, .int (257) 0, .int (2) 0, .int (0) 0, .int (0) 0, .int (3) 0, .ref 461, .bool true, .int (181) 0, .ref 462, .none, .ref 463, .ref 464, .ref 465, .int (889) 0, .int (257) 0, .str (Str.ofString "/claim/cut.py") 890] }
noncomputable def fd467 : FuncData := fdOf (st1 71) "_law_next" "_law_next" (.none) (.str (Str.ofString "law_nm0144_01") 881) (.ref 466)
noncomputable def o467 : Obj := { cls := .type "function", data := .func fd467 }
noncomputable def o473 : Obj := { cls := .type "code", data := .fields #[.str (Str.ofString "_law_spans") 892, .str (Str.ofString "_law_spans") 893, .str (Str.ofString "/claim/cut.py") 894, .int (260) 0, .int (0) 0, .int (0) 0, .int (0) 0, .int (3) 0, .ref 468, .bool true, .int (181) 0, .ref 469, .none, .ref 470, .ref 471, .ref 472, .int (895) 0, .int (260) 0, .str (Str.ofString "/claim/cut.py") 896] }
noncomputable def fd474 : FuncData := fdOf (st1 72) "_law_spans" "_law_spans" (.none) (.str (Str.ofString "law_nm0144_01") 881) (.ref 473)
noncomputable def o474 : Obj := { cls := .type "function", data := .func fd474 }
noncomputable def o480 : Obj := { cls := .type "code", data := .fields #[.str (Str.ofString "_law_label") 898, .str (Str.ofString "_law_label") 899, .str (Str.ofString "/claim/cut.py") 900, .int (262) 0, .int (1) 0, .int (0) 0, .int (0) 0, .int (3) 0, .ref 475, .bool true, .int (181) 0, .ref 476, .none, .ref 477, .ref 478, .ref 479, .int (902) 0, .int (262) 0, .str (Str.ofString "/claim/cut.py") 903] }
noncomputable def fd481 : FuncData := fdOf (st1 73) "_law_label" "_law_label" (.none) (.str (Str.ofString "law_nm0144_01") 881) (.ref 480)
noncomputable def o481 : Obj := { cls := .type "function", data := .func fd481 }
noncomputable def o485 : Obj := { cls := .type "code", data := .fields #[.str (Str.ofString "_law_plain") 905, .str (Str.ofString "_law_plain") 906, .str (Str.ofString "/claim/cut.py") 907, .int (264) 0, .int (2) 0, .int (0) 0, .int (0) 0, .int (3) 0, .ref 482, .bool true, .int (181) 0, .ref 483, .none, .none, .none, .ref 484, .int (908) 0, .int (264) 0, .str (Str.ofString "/claim/cut.py") 909] }
noncomputable def fd486 : FuncData := fdOf (st1 74) "_law_plain" "_law_plain" (.none) (.str (Str.ofString "law_nm0144_01") 881) (.ref 485)
noncomputable def o486 : Obj := { cls := .type "function", data := .func fd486 }
noncomputable def o492 : Obj := { cls := .type "code", data := .fields #[.str (Str.ofString "_law_node") 911, .str (Str.ofString "_law_node") 912, .str (Str.ofString "/claim/cut.py") 913, .int (280) 0, .int (2) 0, .int (0) 0, .int (0) 0, .int (3) 0, .ref 487, .bool true, .int (181) 0, .ref 488, .none, .ref 489, .ref 490, .ref 491, .int (919) 0, .int (280) 0, .str (Str.ofString "/claim/cut.py") 920] }
noncomputable def fd493 : FuncData := fdOf (st1 75) "_law_node" "_law_node" (.none) (.str (Str.ofString "law_nm0144_01") 881) (.ref 492)
noncomputable def o493 : Obj := { cls := .type "function", data := .func fd493 }
noncomputable def o499 : Obj := { cls := .type "code", data := .fields #[.str (Str.ofString "_law_tree") 922, .str (Str.ofString "_law_tree") 923, .str (Str.ofString "/claim/cut.py") 924, .int (287) 0, .int (2) 0, .int (0) 0, .int (0) 0, .int (3) 0, .ref 494, .bool true, .int (181) 0, .ref 495, .none, .ref 496, .ref 497, .ref 498, .int (929) 0, .int (287) 0, .str (Str.ofString "/claim/cut.py") 930] }
noncomputable def fd500 : FuncData := fdOf (st1 76) "_law_tree" "_law_tree" (.none) (.str (Str.ofString "law_nm0144_01") 881) (.ref 499)
noncomputable def o500 : Obj := { cls := .type "function", data := .func fd500 }
noncomputable def o506 : Obj := { cls := .type "code", data := .fields #[.str (Str.ofString "_law_flat") 932, .str (Str.ofString "_law_flat") 933, .str (Str.ofString "/claim/cut.py") 934, .int (294) 0, .int (1) 0, .int (0) 0, .int (0) 0, .int (3) 0, .ref 501, .bool true, .int (181) 0, .ref 502, .none, .ref 503, .ref 504, .ref 505, .int (940) 0, .int (294) 0, .str (Str.ofString "/claim/cut.py") 941] }
noncomputable def fd507 : FuncData := fdOf (st1 77) "_law_flat" "_law_flat" (.none) (.str (Str.ofString "law_nm0144_01") 881) (.ref 506)
noncomputable def o507 : Obj := { cls := .type "function", data := .func fd507 }
noncomputable def o513 : Obj := { cls := .type "code", data := .fields #[.str (Str.ofString "_law_within") 943, .str (Str.ofString "_law_within") 944, .str (Str.ofString "/claim/cut.py") 945, .int (304) 0, .int (1) 0, .int (0) 0, .int (0) 0, .int (3) 0, .ref 508, .bool true, .int (181) 0, .ref 509, .none, .ref 510, .ref 511, .ref 512, .int (950) 0, .int (304) 0, .str (Str.ofString "/claim/cut.py") 951] }
noncomputable def fd514 : FuncData := fdOf (st1 78) "_law_within" "_law_within" (.none) (.str (Str.ofString "law_nm0144_01") 881) (.ref 513)
noncomputable def o514 : Obj := { cls := .type "function", data := .func fd514 }
noncomputable def o518 : Obj := { cls := .type "code", data := .fields #[.str (Str.ofString "_law_reached") 953, .str (Str.ofString "_law_reached") 954, .str (Str.ofString "/claim/cut.py") 955, .int (313) 0, .int (1) 0, .int (0) 0, .int (0) 0, .int (3) 0, .ref 515, .bool true, .int (181) 0, .ref 516, .none, .none, .none, .ref 517, .int (956) 0, .int (313) 0, .str (Str.ofString "/claim/cut.py") 957] }
noncomputable def fd519 : FuncData := fdOf (st1 79) "_law_reached" "_law_reached" (.none) (.str (Str.ofString "law_nm0144_01") 881) (.ref 518)
noncomputable def o519 : Obj := { cls := .type "function", data := .func fd519 }
noncomputable def o523 : Obj := { cls := .type "code", data := .fields #[.str (Str.ofString "_law_lowered") 959, .str (Str.ofString "_law_lowered") 960, .str (Str.ofString "/claim/cut.py") 961, .int (319) 0, .int (2) 0, .int (0) 0, .int (0) 0, .int (3) 0, .ref 520, .bool true, .int (181) 0, .ref 521, .none, .none, .none, .ref 522, .int (962) 0, .int (319) 0, .str (Str.ofString "/claim/cut.py") 963] }
noncomputable def fd524 : FuncData := fdOf (st1 80) "_law_lowered" "_law_lowered" (.none) (.str (Str.ofString "law_nm0144_01") 881) (.ref 523)
noncomputable def o524 : Obj := { cls := .type "function", data := .func fd524 }
noncomputable def o528 : Obj := { cls := .type "code", data := .fields #[.str (Str.ofString "_law_counts") 965, .str (Str.ofString "_law_counts") 966, .str (Str.ofString "/claim/cut.py") 967, .int (326) 0, .int (3) 0, .int (0) 0, .int (0) 0, .int (3) 0, .ref 525, .bool true, .int (181) 0, .ref 526, .none, .none, .none, .ref 527, .int (968) 0, .int (326) 0, .str (Str.ofString "/claim/cut.py") 969] }
noncomputable def fd529 : FuncData := fdOf (st1 81) "_law_counts" "_law_counts" (.none) (.str (Str.ofString "law_nm0144_01") 881) (.ref 528)
noncomputable def o529 : Obj := { cls := .type "function", data := .func fd529 }
noncomputable def o533 : Obj := { cls := .type "code", data := .fields #[.str (Str.ofString "_law_is_right") 971, .str (Str.ofString "_law_is_right") 972, .str (Str.ofString "/claim/cut.py") 973, .int (339) 0, .int (6) 0, .int (0) 0, .int (0) 0, .int (3) 0, .ref 530, .bool true, .int (181) 0, .ref 531, .none, .none, .none, .ref 532, .int (974) 0, .int (339) 0, .str (Str.ofString "/claim/cut.py") 975] }
noncomputable def fd534 : FuncData := fdOf (st1 82) "_law_is_right" "_law_is_right" (.none) (.str (Str.ofString "law_nm0144_01") 881) (.ref 533)
noncomputable def o534 : Obj := { cls := .type "function", data := .func fd534 }
noncomputable def o538 : Obj := { cls := .type "code", data := .fields #[.str (Str.ofString "law") 977, .str (Str.ofString "law") 978, .str (Str.ofString "/claim/cut.py") 979, .int (364) 0, .int (1) 0, .int (0) 0, .int (0) 0, .int (3) 0, .ref 535, .bool true, .int (181) 0, .ref 536, .none, .none, .none, .ref 537, .int (980) 0, .int (364) 0, .str (Str.ofString "/claim/cut.py") 981] }
noncomputable def fd539 : FuncData := fdOf (st1 83) "law" "law" (.none) (.str (Str.ofString "law_nm0144_01") 881) (.ref 538)
noncomputable def o539 : Obj := { cls := .type "function", data := .func fd539 }
noncomputable def KK (P : Params) : Frag := [(2, o2 P), (3, o3 P), (22, o22 P), (23, o23), (24, o24), (25, o25), (26, o26), (27, o27), (28, o28), (29, o29), (30, o30), (31, o31), (32, o32), (33, o33), (34, o34), (35, o35 P), (36, o36), (37, o37), (38, o38), (39, o39), (40, o40), (41, o41), (42, o42), (43, o43 P), (44, o44), (45, o45), (46, o46), (47, o47), (48, o48), (49, o49), (50, o50), (51, o51), (52, o52), (53, o53), (54, o54), (55, o55), (56, o56), (57, o57), (58, o58), (59, o59), (60, o60), (61, o61), (62, o62), (63, o63), (64, o64), (65, o65), (66, o66), (67, o67), (68, o68), (69, o69), (70, o70), (71, o71), (72, o72), (73, o73), (74, o74), (75, o75), (76, o76), (77, o77), (78, o78), (79, o79), (80, o80), (81, o81), (82, o82), (83, o83), (84, o84), (85, o85), (86, o86), (87, o87), (88, o88), (89, o89), (90, o90), (91, o91), (92, o92), (93, o93), (94, o94), (95, o95), (96, o96), (97, o97), (98, o98), (99, o99), (100, o100), (101, o101), (102, o102), (103, o103), (104, o104), (105, o105), (106, o106), (107, o107), (108, o108), (109, o109), (110, o110), (111, o111), (112, o112), (113, o113), (114, o114), (115, o115), (116, o116), (117, o117), (118, o118), (119, o119), (120, o120), (121, o121), (122, o122), (128, o128), (129, o129), (135, o135), (136, o136), (137, o137), (138, o138 P), (139, o139), (140, o140), (141, o141), (142, o142), (143, o143), (144, o144), (145, o145), (146, o146), (147, o147), (148, o148), (149, o149), (150, o150), (151, o151), (152, o152), (153, o153), (161, o161), (167, o167), (168, o168), (174, o174), (175, o175), (176, o176), (180, o180), (181, o181), (187, o187), (188, o188), (190, o190 P), (191, o191), (201, o201), (202, o202), (208, o208), (209, o209), (215, o215), (216, o216), (222, o222), (223, o223), (227, o227), (228, o228), (241, o241), (242, o242), (248, o248), (249, o249), (255, o255), (256, o256), (262, o262), (263, o263), (269, o269), (270, o270), (276, o276), (277, o277), (279, o279 P), (280, o280), (297, o297), (298, o298), (307, o307 P), (308, o308), (325, o325), (326, o326), (335, o335 P), (336, o336), (353, o353), (354, o354), (365, o365), (366, o366), (370, o370), (371, o371), (450, o450 P), (451, o451), (466, o466), (467, o467), (473, o473), (474, o474), (480, o480), (481, o481), (485, o485), (486, o486), (492, o492), (493, o493), (499, o499), (500, o500), (506, o506), (507, o507), (513, o513), (514, o514), (518, o518), (519, o519), (523, o523), (524, o524), (528, o528), (529, o529), (533, o533), (534, o534), (538, o538), (539, o539)]
noncomputable def asK : List Addr := [2, 3, 22, 23, 24, 25, 26, 27, 28, 29, 30, 31, 32, 33, 34, 35, 36, 37, 38, 39, 40, 41, 42, 43, 44, 45, 46, 47, 48, 49, 50, 51, 52, 53, 54, 55, 56, 57, 58, 59, 60, 61, 62, 63, 64, 65, 66, 67, 68, 69, 70, 71, 72, 73, 74, 75, 76, 77, 78, 79, 80, 81, 82, 83, 84, 85, 86, 87, 88, 89, 90, 91, 92, 93, 94, 95, 96, 97, 98, 99, 100, 101, 102, 103, 104, 105, 106, 107, 108, 109, 110, 111, 112, 113, 114, 115, 116, 117, 118, 119, 120, 121, 122, 128, 129, 135, 136, 137, 138, 139, 140, 141, 142, 143, 144, 145, 146, 147, 148, 149, 150, 151, 152, 153, 161, 167, 168, 174, 175, 176, 180, 181, 187, 188, 190, 191, 201, 202, 208, 209, 215, 216, 222, 223, 227, 228, 241, 242, 248, 249, 255, 256, 262, 263, 269, 270, 276, 277, 279, 280, 297, 298, 307, 308, 325, 326, 335, 336, 353, 354, 365, 366, 370, 371, 450, 451, 466, 467, 473, 474, 480, 481, 485, 486, 492, 493, 499, 500, 506, 507, 513, 514, 518, 519, 523, 524, 528, 529, 533, 534, 538, 539]
/- number_kind=129, stack_of=136, Piece.__init__=168, Piece.code=175, Piece.parts=181, Piece.labels=188, pieces_of=202, put_pieces=209, body_of=216, is_named=223, lower_labels=228, Arities.__init__=242, Arities.of_kind=249, Arities.of_block=256, Arities.of=263, Arities.behind=270, Arities.behind_all=277, Import.__init__=298, Func.__init__=326, Module.__init__=354, Module.abouts=366, Module.func_kinds=371, _law_next=467, _law_spans=474, _law_label=481, _law_plain=486, _law_node=493, _law_tree=500, _law_flat=507, _law_within=514, _law_reached=519, _law_lowered=524, _law_counts=529, _law_is_right=534, law=539 -/
end Mine

-- MSt
namespace Mine

structure Cx where
  env : Env
  h₀ : Heap
  g₀ : Vis
  n₀ : Nat
  G0 : Heap
  gls : List (Str × Value)
  s₀ : Shared
noncomputable def Cx.fx (c : Cx) : Fx := ⟨c.env, c.h₀, c.g₀, c.n₀⟩

structure Sn (c : Cx) (g : Vis) (m : Loc) (news : Led) (s : Shared) : Prop where
  st : St c.G0 c.gls c.fx g m news s.heap
  eq : s = { c.s₀ with heap := s.heap, toks := s.toks }
  gz : c.G0.objs.size ≤ c.n₀

inductive LUp (a : Addr) (o o' : Obj) : Led → Led → Prop
  | hd {r} : LUp a o o' ((a, o) :: r) ((a, o') :: r)
  | tl {p r r'} : LUp a o o' r r' → LUp a o o' (p :: r) (p :: r')
inductive LDel (a : Addr) (o : Obj) : Led → Led → Prop
  | hd {r} : LDel a o ((a, o) :: r) r
  | tl {p r r'} : LDel a o r r' → LDel a o (p :: r) (p :: r')
inductive Pick : Led → Led → Led → Prop
  | nil {n} : Pick [] n n
  | cons {a o own n n1 r} : LDel a o n n1 → Pick own n1 r → Pick ((a, o) :: own) n r
inductive LMem (a : Addr) (o : Obj) : Led → Prop
  | hd {r} : LMem a o ((a, o) :: r)
  | tl {p r} : LMem a o r → LMem a o (p :: r)
theorem LMem.mem {a : Addr} {o : Obj} {n : Led} (h : LMem a o n) : (a, o) ∈ n := by induction h with | hd => exact .head _ | tl _ ih => exact .tail _ ih
theorem LDel.perm {a : Addr} {o : Obj} {n r : Led} (h : LDel a o n r) : n.Perm ((a, o) :: r) := by
  induction h with
  | hd => exact List.Perm.refl _
  | tl _ ih => exact (List.Perm.cons _ ih).trans (List.Perm.swap _ _ _)
theorem LUp.split {a : Addr} {o o' : Obj} {n n' : Led} (h : LUp a o o' n n') : ∃ r, n.Perm ((a, o) :: r) ∧ ((a, o') :: r).Perm n' := by
  induction h with
  | hd => exact ⟨_, List.Perm.refl _, List.Perm.refl _⟩
  | @tl p _ _ _ ih => obtain ⟨r, h1, h2⟩ := ih; exact ⟨p :: r, (List.Perm.cons _ h1).trans (List.Perm.swap _ _ _), (List.Perm.swap _ _ _).trans (List.Perm.cons _ h2)⟩
theorem Pick.perm {own n r : Led} (h : Pick own n r) : n.Perm (own ++ r) := by
  induction h with
  | nil => exact List.Perm.refl _
  | cons d _ ih => exact d.perm.trans (List.Perm.cons _ ih)

section facts
variable {G0 : Heap} {gls : List (Str × Value)} {x : Fx} {g : Vis} {m m' : Loc} {news own own' rest : Led} {h h' : Heap}
/-- the heap changes at own places alone -/
theorem St.mut (S : St G0 gls x g m (own ++ rest) h) (hk : ∀ b o, h.get? b = some o → b ≠ x.env.locals → b ∉ own.map (·.1) → h'.get? b = some o) (hL : h'.Ns x.env.locals (locOf m))
    (hob : ∀ p ∈ own', h'.get? p.1 = some p.2) (hw : own'.map (·.1) = own.map (·.1)) : St G0 gls x g m (own' ++ rest) h' := by
  have eo : owns x.env.locals m (own' ++ rest) = owns x.env.locals m (own ++ rest) := by
    unfold owns; rw [List.map_append, List.map_append, hw]
  have inW : ∀ a, a ∈ own.map (·.1) → a ∈ owns x.env.locals m (own ++ rest) := fun a ha => .tail _ (List.mem_append_right _ (by rw [List.map_append]; exact List.mem_append_left _ ha))
  have kp : ∀ b o, h.get? b = some o → b ∉ owns x.env.locals m (own ++ rest) → h'.get? b = some o := fun b o e n => hk b o e (fun q => n (q ▸ .head _)) fun q => n (inW b q)
  have dj2 := List.nodup_append.mp (List.nodup_cons.mp S.dj).2
  have nL := (List.nodup_cons.mp S.dj).1
  refine ⟨S.ok, S.gb, S.nd, eo ▸ S.dj, eo ▸ S.hn, hL, fun n c v hm => ?_, fun p hp => ?_, S.ro, fun b o e => kp b o (S.keep b o e) (fun q => by rw [(S.hn b q).1] at e; cases e),
    fun b o e => kp b o (S.sub b o e) (fun q => by rw [(S.hn b q).2] at e; cases e), S.base, S.up, S.ext, S.ln, S.gg⟩
  · obtain ⟨o, ho, hd⟩ := S.cl n c v hm
    refine ⟨o, hk _ _ ho (fun q => nL (q ▸ List.mem_append_left _ (cells_mem hm))) fun q => ?_, hd⟩
    exact dj2.2.2 c (cells_mem hm) c (by rw [List.map_append]; exact List.mem_append_left _ q) rfl
  · rcases List.mem_append.mp hp with q | q
    · exact hob p q
    · refine hk _ _ (S.ob p (List.mem_append_right _ q)) (fun z => nL (z ▸ List.mem_append_right _ (by rw [List.map_append]; exact List.mem_append_right _ (List.mem_map_of_mem q)))) fun z => ?_
      have d3 := dj2.2.1
      rw [List.map_append] at d3
      exact (List.nodup_append.mp d3).2.2 _ z _ (List.mem_map_of_mem q) rfl
/-- a new object -/
theorem St.fresh (S : St G0 gls x g m news h) (hk : ∀ b o, h.get? b = some o → h'.get? b = some o) {a : Addr} {o : Obj} (ha : h.objs.size ≤ a) (ho : h'.get? a = some o) : St G0 gls x g m ((a, o) :: news) h' := by
  refine (S.grow hk).add ho (fun hm => absurd (S.lt _ hm) (Nat.not_lt.mpr ha)) ?_ ?_
  · cases q : x.h₀.get? a with
    | none => rfl
    | some o' => exact absurd (Heap.lt_size (S.keep _ _ q)) (Nat.not_lt.mpr ha)
  · cases q : g a with
    | none => rfl
    | some o' => exact absurd (Heap.lt_size (S.sub _ _ q)) (Nat.not_lt.mpr ha)
theorem St.freezeD {a : Addr} {o : Obj} (S : St G0 gls x g m news h) (d : LDel a o news rest) (hn : x.n₀ ≤ a) : St G0 gls x (g.put a o) m rest h := (S.perm d.perm).freeze hn
end facts

/-- all that lies in the heap beside the top and the frame -/
noncomputable def allObs (G0 : Heap) (L : Addr) (h : Heap) : Led := (List.range h.objs.size).filterMap fun a => if a = L ∨ (G0.get? a).isSome then none else (h.get? a).map (a, ·)
theorem mem_allObs {G0 : Heap} {L : Addr} {h : Heap} {a : Addr} {o : Obj} : (a, o) ∈ allObs G0 L h ↔ h.get? a = some o ∧ a ≠ L ∧ G0.get? a = none := by
  unfold allObs
  rw [List.mem_filterMap]
  constructor
  · rintro ⟨b, hb, e⟩
    by_cases q : b = L ∨ (G0.get? b).isSome
    · rw [if_pos q] at e; cases e
    · rw [if_neg q] at e
      cases z : h.get? b with
      | none => rw [z] at e; cases e
      | some o' =>
        rw [z] at e; cases e
        refine ⟨z, fun r => q (.inl r), ?_⟩
        cases y : G0.get? a with
        | none => rfl
        | some _ => exact absurd (.inr (by rw [y]; rfl)) q
  · rintro ⟨h1, h2, h3⟩
    refine ⟨a, List.mem_range.mpr (Heap.lt_size h1), ?_⟩
    rw [if_neg (by rintro (q | q); exact h2 q; rw [h3] at q; cases q), h1]; rfl

section sn
variable {c : Cx} {g g' : Vis} {m m' : Loc} {news news' own rest : Led} {s : Shared} {h' : Heap} {tk : Nat}
theorem Sn.to (S : Sn c g m news s) (S' : St c.G0 c.gls c.fx g' m' news' h') : Sn c g' m' news' { s with heap := h', toks := tk } := ⟨S', by have := S.eq; rw [this], S.gz⟩
theorem Sn.perm (S : Sn c g m news s) (h : news.Perm news') : Sn c g m news' s := ⟨S.st.perm h, S.eq, S.gz⟩
theorem Sn.top (S : Sn c g m news s) {b : Addr} {o : Obj} (e : c.G0.get? b = some o) : s.heap.get? b = some o := S.st.keep _ _ (S.st.base _ _ e)
theorem Sn.keepG (S : Sn c g m news s) : ∀ b o, c.G0.get? b = some o → s.heap.get? b = some o := fun _ _ e => S.top e
theorem Sn.up (S : Sn c g m news s) : VSub c.g₀ g := S.st.up
theorem Sn.sub (S : Sn c g m news s) : Sub g s.heap := S.st.sub
theorem Sn.at {a : Addr} {o : Obj} (S : Sn c g m news s) (h : LMem a o news) : s.heap.get? a = some o := S.st.ob _ h.mem
theorem Sn.gtop (S : Sn c g m news s) {b : Addr} {o : Obj} (e : c.G0.get? b = some o) : g b = some o := S.st.up _ _ (S.st.gg _ _ e)
theorem Sn.tick (S : Sn c g m news s) : Sn c g m news { s with toks := tk } := S.to (tk := tk) S.st
theorem Sn.fresh (S : Sn c g m news s) (hk : ∀ b o, s.heap.get? b = some o → h'.get? b = some o) {a : Addr} {o : Obj} (ha : s.heap.objs.size ≤ a) (ho : h'.get? a = some o) : Sn c g m ((a, o) :: news) { s with heap := h', toks := tk } :=
  S.to (S.st.fresh hk ha ho)
theorem Sn.push (S : Sn c g m news s) {o : Obj} (hf : o.isFreed = false) : Sn c g m ((s.heap.objs.size, o) :: news) { s with heap := s.heap.push o, toks := tk } := S.to (S.st.alloc hf)
theorem Sn.grow (S : Sn c g m news s) (hk : ∀ b o, s.heap.get? b = some o → h'.get? b = some o) : Sn c g m news { s with heap := h', toks := tk } := S.to (S.st.grow hk)
theorem Sn.sz (S : Sn c g m news s) : c.n₀ ≤ s.heap.objs.size := S.st.sz
theorem Sn.drop (S : Sn c g m news s) (h : news'.Sublist news) : Sn c g m news' s := ⟨S.st.drop h, S.eq, S.gz⟩
theorem Sn.freeze {a : Addr} {o : Obj} (S : Sn c g m news s) (d : LDel a o news rest) (hn : c.n₀ ≤ a) : Sn c (g.put a o) m rest s := ⟨S.st.freezeD d hn, S.eq, S.gz⟩
theorem Sn.none {a : Addr} {o : Obj} (S : Sn c g m news s) (d : LMem a o news) : g a = none := S.st.none (List.mem_map_of_mem (f := (·.1)) d.mem)
theorem Sn.lock {a : Addr} {o : Obj} (S : Sn c g m news s) (d : LDel a o news rest) (hn : c.n₀ ≤ a) : ∃ g', VSub g g' ∧ g' a = some o ∧ Sn c g' m rest s :=
  ⟨g.put a o, Vis.put_up ((S.perm d.perm).none .hd), Vis.put_at, S.freeze d hn⟩
theorem Sn.lockK {a : Addr} {o : Obj} {X : Prop} (S : Sn c g m news s) (d : LDel a o news rest) (hn : c.n₀ ≤ a) (h : ∀ g', VSub g g' → g' a = some o → Sn c g' m rest s → X) : X :=
  h (g.put a o) (Vis.put_up ((S.perm d.perm).none .hd)) Vis.put_at (S.freeze d hn)
/-- an own object changes -/
theorem Sn.chg {a : Addr} {o o' : Obj} (S : Sn c g m news s) (u : LUp a o o' news news') (hs : Heap.SameBut a s.heap h') (ho : h'.get? a = some o') : Sn c g m news' { s with heap := h', toks := tk } := by
  obtain ⟨r, h1, h2⟩ := u.split
  exact S.to (((S.st.perm h1).chg hs ho).perm h2)
/-- an own object goes, and the heap may have changed there -/
theorem Sn.gone {a : Addr} {o : Obj} (S : Sn c g m news s) (d : LDel a o news rest) (hs : ∀ b o', b ≠ a → s.heap.get? b = some o' → h'.get? b = some o') : Sn c g m rest { s with heap := h', toks := tk } := by
  have S1 : St c.G0 c.gls c.fx g m ((a, o) :: rest) s.heap := S.st.perm d.perm
  have ne : a ≠ c.env.locals := fun e => (List.nodup_cons.mp S1.dj).1 (e ▸ List.mem_append_right _ (.head _))
  have nin : a ∉ owns c.env.locals m rest := by
    have pm : (a :: owns c.env.locals m rest).Perm (owns c.env.locals m ((a, o) :: rest)) := (List.Perm.swap _ _ _).trans (List.Perm.cons _ List.perm_middle.symm)
    exact (List.nodup_cons.mp (pm.nodup_iff.mpr S1.dj)).1
  have S2 := S1.drop (List.sublist_cons_self _ _)
  have ha : a ∈ owns c.env.locals m ((a, o) :: rest) := .tail _ (List.mem_append_right _ (.head _))
  refine S.to ⟨S2.ok, S2.gb, S2.nd, S2.dj, S2.hn, ?_, fun n c' v hm => ?_, fun p hp => hs _ _ (fun e => nin (e ▸ .tail _ (List.mem_append_right _ (List.mem_map_of_mem hp)))) (S2.ob p hp), S2.ro,
    fun b o' e => hs _ _ (fun q => by rw [q, (S1.hn a ha).1] at e; cases e) (S2.keep b o' e), fun b o' e => hs _ _ (fun q => by rw [q, (S1.hn a ha).2] at e; cases e) (S2.sub b o' e), S2.base, S2.up, S2.ext, S2.ln, S2.gg⟩
  · obtain ⟨o', es, ep, ho, r⟩ := S2.ns
    exact ⟨o', es, ep, hs _ _ (Ne.symm ne) ho, r⟩
  · obtain ⟨o', ho, hd⟩ := S2.cl n c' v hm
    exact ⟨o', hs _ _ (fun q => nin (q ▸ .tail _ (List.mem_append_left _ (cells_mem hm)))) ho, hd⟩
/-- a rule that speaks of frames -/
theorem Sn.fr (S : Sn c g m news s) : Fr c.G0 c.env.locals s.heap (locOf m) ∧ News c.G0 c.env.locals s.heap (allObs c.G0 c.env.locals s.heap) :=
  ⟨⟨S.st.ns, S.keepG, Nat.le_trans S.gz S.st.ln⟩, fun p hp => mem_allObs.mp hp⟩
theorem Sn.ofFr (S : Sn c g m news s) (F : Fr c.G0 c.env.locals h' (locOf m)) (N : News c.G0 c.env.locals h' (allObs c.G0 c.env.locals s.heap)) : Sn c g m news { s with heap := h', toks := tk } := by
  have hk : ∀ b o, s.heap.get? b = some o → b ≠ c.env.locals → h'.get? b = some o := fun b o e n => by
    cases q : c.G0.get? b with
    | none => exact (N _ (mem_allObs.mpr ⟨e, n, q⟩)).1
    | some o' => have := S.top q; rw [e] at this; cases this; exact F.keep _ _ q
  exact S.to (St.mut (own := []) (own' := []) (rest := news) S.st (fun b o e n _ => hk b o e n) F.ns (fun p hp => by cases hp) rfl)
theorem Sn.ofFr1 (S : Sn c g m news s) {a : Addr} {o : Obj} (ha : s.heap.objs.size ≤ a) (F : Fr c.G0 c.env.locals h' (locOf m)) (N : News c.G0 c.env.locals h' ((a, o) :: allObs c.G0 c.env.locals s.heap)) : Sn c g m ((a, o) :: news) { s with heap := h', toks := tk } := by
  have S1 := S.ofFr (tk := tk) F fun p hp => N p (.tail _ hp)
  refine S1.to (S1.st.add (N _ (.head _)).1 (fun hm => absurd (S.st.lt _ hm) (Nat.not_lt.mpr ha)) ?_ ?_)
  · cases q : c.h₀.get? a with
    | none => exact q
    | some o' => exact absurd (Heap.lt_size (S.st.keep _ _ q)) (Nat.not_lt.mpr ha)
  · cases q : g a with
    | none => rfl
    | some o' => exact absurd (Heap.lt_size (S.st.sub _ _ q)) (Nat.not_lt.mpr ha)
end sn
end Mine

-- MEnt
namespace Mine

structure Ente (c : Cx) (g : Vis) (W : List Addr) : Prop where
  g₀ : c.g₀ = g
  n₀ : c.n₀ = c.s₀.heap.objs.size
  h₀ : ∀ b o, c.s₀.heap.get? b = some o → b ∉ W → c.h₀.get? b = some o
/-- what a def's body must end in -/
noncomputable def RetQ (c : Cx) (g : Vis) (W : List Addr) (P : Value → Vis → Led → Prop) : Flow → Shared → Prop := fun fl s' => Out c.s₀ g W P (match fl with | .ret v => v | _ => .none) s'
/-- the contract of a call -/
noncomputable def Ct (prog : Program) (w : World) (G0 : Heap) (d : Nat) (f : Value) (args : List Value) (g : Vis) (own : Led) (P : Value → Vis → Led → Prop) : Prop :=
  ∀ (A : Around) (s : Shared) (E : Value → Shared → Prop), Rm A d → Vw G0 s.heap g own → G0.objs.size ≤ s.heap.objs.size → wpAny (model prog w) A (call f args) (Out s g (own.map (·.1)) P) E s

theorem Ct.le {prog : Program} {w : World} {G0 : Heap} {d e : Nat} {f : Value} {args : List Value} {g : Vis} {own : Led} {P : Value → Vis → Led → Prop} (h : Ct prog w G0 d f args g own P) (hd : d ≤ e) : Ct prog w G0 e f args g own P :=
  fun A s E r V z => h A s E (r.le hd) V z
theorem Out.imp {s s' : Shared} {g : Vis} {W : List Addr} {P P' : Value → Vis → Led → Prop} {v : Value} (h : Out s g W P v s') (k : ∀ v g' own', own'.map (·.1) = W → VSub g g' → P v g' own' → P' v g' own') : Out s g W P' v s' := by
  obtain ⟨h', tk, g', own', a1, a2, a3, a4, a5, a6, a7, a8, a9⟩ := h
  exact ⟨h', tk, g', own', a1, a2, a3, a4, a5, a6, a7, a8, k _ _ _ a8 a4 a9⟩
theorem Ct.imp {prog : Program} {w : World} {G0 : Heap} {d : Nat} {f : Value} {args : List Value} {g : Vis} {own : Led} {P P' : Value → Vis → Led → Prop} (h : Ct prog w G0 d f args g own P)
    (k : ∀ v g' own', own'.map (·.1) = own.map (·.1) → VSub g g' → P v g' own' → P' v g' own') : Ct prog w G0 d f args g own P' :=
  fun A s E r V z => wpAny_mono (h A s E r V z) (fun _ _ o => o.imp k) fun _ _ e => e

section
variable {prog : Program} {w : World} {A : Around} {E : Value → Shared → Prop} {s : Shared}
variable {c : Cx} {g : Vis} {m m' : Loc} {news own rest : Led}

theorem r_call {d : Nat} {f : Value} {args : List Value} {P : Value → Vis → Led → Prop} {Q : Value → Shared → Prop} (S : Sn c g m news s) (r : Rm A d) (hp : Pick own news rest) (hf : Ct prog w c.G0 d f args g own P)
    (h : ∀ v s' g' own', Sn c g' m (own' ++ rest) s' → VSub g g' → own'.map (·.1) = own.map (·.1) → P v g' own' → Q v s') : wpAny (model prog w) A (call f args) Q E s := by
  have S1 := S.st.perm hp.perm
  refine wpAny_mono (hf A s E r S1.vw (Nat.le_trans S.gz S.sz)) (fun v s' o => ?_) fun _ _ e => e
  have hw : ∃ h' tk g' own', s' = { s with heap := h', toks := tk } ∧ own'.map (·.1) = own.map (·.1) ∧ St c.G0 c.gls c.fx g' m (own' ++ rest) h' ∧ VSub g g' ∧ P v g' own' := by
    obtain ⟨h', tk, g', own', e, S', hv, hp'⟩ := S1.out (o.imp (P' := fun v g' own' => P v g' own' ∧ own'.map (·.1) = own.map (·.1)) fun v g' own' q _ p => ⟨p, q⟩)
    exact ⟨h', tk, g', own', e, hp'.2, S', hv, hp'.1⟩
  obtain ⟨h', tk, g', own', rfl, e, S', hv, hp'⟩ := hw
  exact h v _ g' own' (S.to S') hv e hp'
/-- a call that is handed no object of one's own -/
theorem r_call0 {d : Nat} {f : Value} {args : List Value} {P : Value → Vis → Led → Prop} {Q : Value → Shared → Prop} (S : Sn c g m news s) (r : Rm A d) (hf : Ct prog w c.G0 d f args g [] P)
    (h : ∀ v s' g', Sn c g' m news s' → VSub g g' → P v g' [] → Q v s') : wpAny (model prog w) A (call f args) Q E s :=
  r_call S r .nil hf fun v s' g' own' S' hv e hp => by
    cases own' with
    | nil => exact h v s' g' S' hv hp
    | cons _ _ => cases e
theorem r_call0L {d : Nat} {f : Value} {args : List Value} {xs : List PyData} {Q : Value → Shared → Prop} (S : Sn c g m news s) (r : Rm A d) (hf : Ct prog w c.G0 d f args g [] fun v g' _ => Rd g' v (.list xs))
    (h : ∀ a vs n s' g', Sn c g' m news s' → VSub g g' → Rd g' (.ref a) (.list xs) → g' a = some { cls := .type "list", data := .seq (List.toArray vs) n } → RdAll g' vs xs → Q (.ref a) s') : wpAny (model prog w) A (call f args) Q E s :=
  r_call0 S r hf fun _ _ _ S' hv hr => by obtain ⟨a, vs, n, rfl, e, q⟩ := id hr.lst_inv; exact h a vs n _ _ S' hv hr e q
theorem r_call0T {d : Nat} {f : Value} {args : List Value} {xs : List PyData} {Q : Value → Shared → Prop} (S : Sn c g m news s) (r : Rm A d) (hf : Ct prog w c.G0 d f args g [] fun v g' _ => Rd g' v (.tuple xs))
    (h : ∀ a vs n s' g', Sn c g' m news s' → VSub g g' → Rd g' (.ref a) (.tuple xs) → g' a = some { cls := .type "tuple", data := .seq (List.toArray vs) n } → RdAll g' vs xs → Q (.ref a) s') : wpAny (model prog w) A (call f args) Q E s :=
  r_call0 S r hf fun _ _ _ S' hv hr => by obtain ⟨a, vs, n, rfl, e, q⟩ := id hr.tup_inv; exact h a vs n _ _ S' hv hr e q

/-- at a return -/
theorem r_leave {g₀ : Vis} {W : List Addr} {P : Value → Vis → Led → Prop} {v : Value} (S : Sn c g m news s) (e : Ente c g₀ W) (hp : Pick own news rest) (hw : own.map (·.1) = W) (p : P v g own) : RetQ c g₀ W P (.ret v) s := by
  have S1 := S.st.perm hp.perm
  exact ⟨s.heap, s.toks, g, own, S.eq, fun b o q n => S1.keep b o (e.h₀ b o q n), by have := S1.sz; have z := e.n₀; simp only [Cx.fx] at this; lia, e.g₀ ▸ S1.up,
    fun a o q => by have := S1.ext a o q; have z1 := e.g₀; have z2 := e.n₀; simp only [Cx.fx] at this; rwa [z1, z2] at this, S1.sub, fun p q => S1.ob p (List.mem_append_left _ q), hw, p⟩
theorem r_end {g₀ : Vis} {W : List Addr} {P : Value → Vis → Led → Prop} (S : Sn c g m news s) (e : Ente c g₀ W) (hp : Pick own news rest) (hw : own.map (·.1) = W) (p : P .none g own) : RetQ c g₀ W P .next s :=
  r_leave S e hp hw p

theorem ent {prog : Program} {w : World} {G0 : Heap} {gls : List (Str × Value)} {f : Addr} {o : Obj} {fd : FuncData} {body : List Stmt} {args : List Value} {binds : List (Str × Value)} {rest : List Str} {own : Led} {d : Nat} {m : Loc} {P : Value → Vis → Led → Prop}
    (ho : G0.get? f = some o) (hd : o.data = .func fd) (hlim : G0.NoLimit) (hcd : G0.CodeRec fd.code fd.qualname) (hbody : fd.body = .stmts body)
    (hgl : fd.globals = mainGlobals) (hbl : fd.builtins = builtinsNs) (hbind : ∀ s : Shared, (∀ b o', G0.get? b = some o' → s.heap.get? b = some o') → BindsTo s fd ⟨args, []⟩ binds) (hm : m = m0 binds rest) (hok : namesOk fd.scope (names m) gls = true) (gb : Glb G0 gls)
    (h : ∀ c s₁ A, Rm A d → c.G0 = G0 → c.gls = gls → (∃ L, c.env = callEnv fd L f) → Ente c g (own.map (·.1)) → Sn c g m own s₁ → wpAny (model prog w) A (execs body c.env) (RetQ c g (own.map (·.1)) P) (fun _ _ => False) s₁) :
    Ct prog w G0 (d + 1) (.ref f) args g own P := by
  intro A s E r V z
  refine wpAny_call (enter (gls := gls) r V ho hd hlim hcd hbody hgl hbl (hbind s fun b o' e => V.sub _ _ (V.gg _ _ e)) hm hok gb ?_)
  intro x h₁ tk he en S
  have := h ⟨x.env, x.h₀, x.g₀, x.n₀, G0, gls, s⟩ { s with heap := h₁, toks := tk } (A.deeper x.env) r.deeper rfl rfl ⟨_, he⟩ ⟨en.g₀, en.n₀, en.h₀⟩ ⟨S, rfl, by show G0.objs.size ≤ x.n₀; rw [en.n₀]; exact z⟩
  exact this

/-- the frame of a def with cells -/
noncomputable def mC (nks : List (Str × NameKind)) (binds : List (Str × Value)) (ns : List Str) (L : Addr) : Loc :=
  ns.map fun n => match nks.lookup n with
    | some .cell => (n, .cell (((cellsFrom (L + 1) nks []).lookup n).getD 0) (binds.lookup n))
    | _ => (n, .loc (binds.lookup n))
noncomputable def nsOk (scope : Scope) (bn ns : List Str) (gls : List (Str × Value)) : Bool :=
  ns.all (fun n => (scope.names.lookup n == some .local || scope.names.lookup n == some .cell) && !(n == ("__debug__" : Str))) && gls.all (fun p => scope.names.lookup p.1 == some .globalImplicit && !(p.1 == ("__debug__" : Str))) &&
    decide ns.Nodup && bn.all (fun n => ns.contains n) && decide bn.Nodup && scope.kind == .function && !scope.isCoroutine && !scope.isGenerator

theorem cellsFrom_mem : ∀ {nks : List (Str × NameKind)} {n : Str} (k : Nat) (acc : List (Str × Addr)), ((n, NameKind.cell) ∈ nks ∨ n ∈ acc.map (·.1)) → n ∈ (cellsFrom k nks acc).map (·.1)
  | [], _, _, _, h => by rcases h with h | h; cases h; exact h
  | (x, kd) :: r, n, k, acc, h => by
    unfold cellsFrom
    split
    · refine cellsFrom_mem (k + 1) _ ?_
      rcases h with h | h
      · rcases List.mem_cons.mp h with e | e
        · cases e; exact .inr (.head _)
        · exact .inl e
      · exact .inr (.tail _ h)
    · rename_i q
      refine cellsFrom_mem k _ ?_
      rcases h with h | h
      · rcases List.mem_cons.mp h with e | e
        · cases e; exact absurd rfl q
        · exact .inl e
      · exact .inr h
theorem lookup_isSome {α : Type} : ∀ {l : List (Str × α)} {n : Str}, n ∈ l.map (·.1) → (l.lookup n).isSome = true
  | (x, v) :: r, n, h => by
    rw [List.lookup_cons]
    cases hb : n == x with
    | true => rfl
    | false =>
      rcases List.mem_cons.mp h with e | e
      · subst e; simp at hb
      · exact lookup_isSome e
theorem bindL_spec (kf : Str → Option NameKind) : ∀ (binds : List (Str × Value)) (m : Str → Option Value) (y : Str), (binds.map (·.1)).Nodup → bindL kf binds m y = if kf y = some .local then (binds.lookup y).or (m y) else m y
  | [], m, y, _ => by simp [bindL]
  | (n, v) :: r, m, y, nd => by
    have nd' := List.nodup_cons.mp nd
    unfold bindL
    rw [bindL_spec kf r _ y nd'.2, List.lookup_cons]
    by_cases q : y = n
    · subst q
      have : r.lookup y = none := lookup_notin nd'.1
      simp [this]
      split <;> simp
    · have : (y == n) = false := beq_eq_false_iff_ne.mpr q
      rw [this]
      by_cases h1 : kf y = some .local <;> by_cases h2 : kf n = some .local <;> simp [h1, h2, q]
theorem bindC_spec (kf : Str → Option NameKind) : ∀ (binds : List (Str × Value)) (m : Str → Option Value) (y : Str), (binds.map (·.1)).Nodup → kf y ≠ some .local → bindC kf binds m y = (binds.lookup y).or (m y)
  | [], m, y, _, _ => by simp [bindC]
  | (n, v) :: r, m, y, nd, hy => by
    have nd' := List.nodup_cons.mp nd
    unfold bindC
    rw [bindC_spec kf r _ y nd'.2 hy, List.lookup_cons]
    by_cases q : y = n
    · subst q
      have : r.lookup y = none := lookup_notin nd'.1
      simp [this, hy]
    · have : (y == n) = false := beq_eq_false_iff_ne.mpr q
      rw [this]
      by_cases h2 : kf n = some .local <;> simp [h2, q]
theorem mC_names {nks : List (Str × NameKind)} {binds : List (Str × Value)} {ns : List Str} {L : Addr} : names (mC nks binds ns L) = ns := by
  unfold names mC
  rw [List.map_map]
  conv => rhs; rw [← List.map_id ns]
  refine List.map_congr_left fun n _ => ?_
  simp only [Function.comp]
  split <;> rfl
theorem mC_locOf {nks : List (Str × NameKind)} {binds : List (Str × Value)} {L : Addr} : ∀ {ns : List Str} (y : Str), locOf (mC nks binds ns L) y = if y ∈ ns then (if nks.lookup y = some .cell then none else binds.lookup y) else none
  | [], y => by simp [mC, locOf]
  | n :: ns, y => by
    have ih := mC_locOf (nks := nks) (binds := binds) (L := L) (ns := ns) y
    have e : mC nks binds (n :: ns) L = (match nks.lookup n with | some .cell => (n, .cell (((cellsFrom (L + 1) nks []).lookup n).getD 0) (binds.lookup n)) | _ => (n, .loc (binds.lookup n))) :: mC nks binds ns L := rfl
    rw [e]
    by_cases q : y = n
    · subst q
      by_cases h : nks.lookup y = some .cell
      · simp only [h]
        simp [locOf]
      · have : (match nks.lookup y with | some .cell => ((y, .cell (((cellsFrom (L + 1) nks []).lookup y).getD 0) (binds.lookup y)) : Str × Slot) | _ => (y, .loc (binds.lookup y))) = (y, .loc (binds.lookup y)) := by
          split
          · rename_i z; exact absurd z h
          · rfl
        rw [this]
        simp [locOf, h]
    · have : ∀ sl : Slot, locOf ((n, sl) :: mC nks binds ns L) y = locOf (mC nks binds ns L) y := by intro sl; cases sl <;> simp [locOf, q]
      have : locOf ((match nks.lookup n with | some .cell => ((n, .cell (((cellsFrom (L + 1) nks []).lookup n).getD 0) (binds.lookup n)) : Str × Slot) | _ => (n, .loc (binds.lookup n))) :: mC nks binds ns L) y = locOf (mC nks binds ns L) y := by split <;> exact this _
      rw [this, ih]; simp [q]
theorem mC_mem {nks : List (Str × NameKind)} {binds : List (Str × Value)} {L : Addr} {ns : List Str} {p : Str × Slot} (h : p ∈ mC nks binds ns L) :
    p.1 ∈ ns ∧ ((nks.lookup p.1 = some .cell ∧ p.2 = .cell (((cellsFrom (L + 1) nks []).lookup p.1).getD 0) (binds.lookup p.1)) ∨ (nks.lookup p.1 ≠ some .cell ∧ p.2 = .loc (binds.lookup p.1))) := by
  obtain ⟨n, hn, rfl⟩ := List.mem_map.mp h
  by_cases q : nks.lookup n = some .cell
  · simp only [q]; exact ⟨hn, .inl ⟨trivial, trivial⟩⟩
  · have : (match nks.lookup n with | some .cell => ((n, .cell (((cellsFrom (L + 1) nks []).lookup n).getD 0) (binds.lookup n)) : Str × Slot) | _ => (n, .loc (binds.lookup n))) = (n, .loc (binds.lookup n)) := by
      split
      · rename_i z; exact absurd z q
      · rfl
    rw [this]; exact ⟨hn, .inr ⟨q, rfl⟩⟩
theorem mC_cells {nks : List (Str × NameKind)} {binds : List (Str × Value)} {L : Addr} : ∀ {ns : List Str} {a : Addr}, a ∈ cellsOf (mC nks binds ns L) → ∃ n ∈ ns, nks.lookup n = some .cell ∧ a = (((cellsFrom (L + 1) nks []).lookup n).getD 0)
  | [], a, h => by cases h
  | n :: ns, a, h => by
    have e : mC nks binds (n :: ns) L = (match nks.lookup n with | some .cell => (n, .cell (((cellsFrom (L + 1) nks []).lookup n).getD 0) (binds.lookup n)) | _ => (n, .loc (binds.lookup n))) :: mC nks binds ns L := rfl
    rw [e] at h
    by_cases q : nks.lookup n = some .cell
    · simp only [q] at h
      rcases List.mem_cons.mp h with r | r
      · exact ⟨n, .head _, q, r⟩
      · obtain ⟨n', h1, h2⟩ := mC_cells r; exact ⟨n', .tail _ h1, h2⟩
    · have : (match nks.lookup n with | some .cell => ((n, .cell (((cellsFrom (L + 1) nks []).lookup n).getD 0) (binds.lookup n)) : Str × Slot) | _ => (n, .loc (binds.lookup n))) = (n, .loc (binds.lookup n)) := by
        split
        · rename_i z; exact absurd z q
        · rfl
      rw [this] at h
      obtain ⟨n', h1, h2⟩ := mC_cells (ns := ns) h; exact ⟨n', .tail _ h1, h2⟩
theorem mC_cells_nodup {nks : List (Str × NameKind)} {binds : List (Str × Value)} {L : Addr} (hap : (cellsFrom (L + 1) nks []).Pairwise fun x y => x.2 ≠ y.2) (hs : ∀ n, nks.lookup n = some .cell → ((cellsFrom (L + 1) nks []).lookup n).isSome = true) :
    ∀ {ns : List Str}, ns.Nodup → (cellsOf (mC nks binds ns L)).Nodup
  | [], _ => List.nodup_nil
  | n :: ns, nd => by
    have nd' := List.nodup_cons.mp nd
    have ih := mC_cells_nodup hap hs (binds := binds) nd'.2
    have e : mC nks binds (n :: ns) L = (match nks.lookup n with | some .cell => (n, .cell (((cellsFrom (L + 1) nks []).lookup n).getD 0) (binds.lookup n)) | _ => (n, .loc (binds.lookup n))) :: mC nks binds ns L := rfl
    rw [e]
    by_cases q : nks.lookup n = some .cell
    · simp only [q]
      refine List.nodup_cons.mpr ⟨fun r => ?_, ih⟩
      obtain ⟨n', h1, h2, h3⟩ := mC_cells r
      obtain ⟨a, ha⟩ := Option.isSome_iff_exists.mp (hs n q)
      obtain ⟨b, hb⟩ := Option.isSome_iff_exists.mp (hs n' h2)
      rw [ha, hb] at h3
      have e2 : a = b := h3
      subst e2
      have := name_of_addr hap (mem_of_lookup ha) (mem_of_lookup hb)
      exact nd'.1 (this ▸ h1)
    · have : (match nks.lookup n with | some .cell => ((n, .cell (((cellsFrom (L + 1) nks []).lookup n).getD 0) (binds.lookup n)) : Str × Slot) | _ => (n, .loc (binds.lookup n))) = (n, .loc (binds.lookup n)) := by
        split
        · rename_i z; exact absurd z q
        · rfl
      rw [this]; exact ih
theorem mem_of_lookup' {α : Type} {l : List (Str × α)} {n : Str} {v : α} (h : l.lookup n = some v) : (n, v) ∈ l := mem_of_lookup h

theorem entC {prog : Program} {w : World} {G0 : Heap} {gls : List (Str × Value)} {f : Addr} {o : Obj} {fd : FuncData} {body : List Stmt} {args : List Value} {binds : List (Str × Value)} {ns : List Str} {own : Led} {d : Nat} {m : Addr → Loc} {P : Value → Vis → Led → Prop}
    (ho : G0.get? f = some o) (hd : o.data = .func fd) (hlim : G0.NoLimit) (hcd : G0.CodeRec fd.code fd.qualname) (hbody : fd.body = .stmts body)
    (hgl : fd.globals = mainGlobals) (hbl : fd.builtins = builtinsNs) (hclo : fd.closure = []) (hbind : bindArgs fd ⟨args, []⟩ = pure binds) (hm : ∀ L, mC fd.scope.names binds ns L = m L) (hok : nsOk fd.scope (binds.map (·.1)) ns gls = true) (gb : Glb G0 gls)
    (h : ∀ c s₁ A L, Rm A d → c.G0 = G0 → c.gls = gls → c.env = callEnvC fd L f → Ente c g (own.map (·.1)) → Sn c g (m L) own s₁ → wpAny (model prog w) A (execs body c.env) (RetQ c g (own.map (·.1)) P) (fun _ _ => False) s₁) :
    Ct prog w G0 (d + 1) (.ref f) args g own P := by
  intro A s E r V z
  unfold nsOk at hok
  simp only [Bool.and_eq_true] at hok
  obtain ⟨⟨⟨⟨⟨⟨⟨k1, k2⟩, k3⟩, k4⟩, k4'⟩, k5⟩, k6⟩, k7⟩ := hok
  have kp : ∀ b o, G0.get? b = some o → s.heap.get? b = some o := fun b o e => V.sub _ _ (V.gg _ _ e)
  have fn : fd.scope.kind = .function := by simpa using k5
  have nd : ns.Nodup := of_decide_eq_true k3
  have ndb : (binds.map (·.1)).Nodup := of_decide_eq_true k4'
  have hs : ∀ n, fd.scope.names.lookup n = some .cell → ∀ k, ((cellsFrom k fd.scope.names []).lookup n).isSome = true := fun n hn k => lookup_isSome (cellsFrom_mem k [] (.inl (mem_of_lookup hn)))
  have kd : ∀ n ∈ ns, (fd.scope.names.lookup n = some .local ∨ fd.scope.names.lookup n = some .cell) ∧ (n == ("__debug__" : Str)) = false := fun n hn => by
    have := List.all_eq_true.mp k1 n hn
    simp only [Bool.and_eq_true, Bool.or_eq_true, beq_iff_eq, Bool.not_eq_true'] at this
    exact this
  have bn : ∀ y ∈ binds, y.1 ∈ ns := fun y hy => by
    have := List.all_eq_true.mp k4 y.1 (List.mem_map_of_mem hy)
    simpa using this
  refine wpAny_call (codeAny_call_cells r.room (kp _ _ ho) hd (hlim.keeps kp) (hcd.keeps kp) hbody hbind hclo (fun y hy => ?_) (fun s₁ X => ?_) (by simpa using k6) (by simpa using k7) fn)
  · rcases (kd _ (bn y hy)).1 with q | q
    · exact .inl q
    · exact .inr ⟨q, hs _ q _⟩
  · obtain ⟨⟨⟨h₁, tk, rfl⟩, hns, hk, hfr⟩, hcell, hap, hab⟩ := X
    have hL : (callEnvC fd s.heap.objs.size f).locals = s.heap.objs.size := rfl
    have hC : (callEnvC fd s.heap.objs.size f).cells = cellsFrom (s.heap.objs.size + 1) fd.scope.names [] := rfl
    have hK : ∀ n, (callEnvC fd s.heap.objs.size f).kindOf n = fd.scope.names.lookup n := fun n => rfl
    rw [hL] at hns hab
    rw [hC] at hcell hap hab
    have lt : ∀ a o', s.heap.get? a = some o' → a ≠ s.heap.objs.size := fun a o' e => Nat.ne_of_lt (Heap.lt_size e)
    have none_of : ∀ a, s.heap.objs.size ≤ a → s.heap.get? a = none := fun a ha => by
      cases q : s.heap.get? a with
      | none => rfl
      | some o' => exact absurd (Heap.lt_size q) (Nat.not_lt.mpr ha)
    let X : Fx := ⟨callEnvC fd s.heap.objs.size f, hideAll s.heap (own.map (·.1)), g, s.heap.objs.size⟩
    have cell_ge : ∀ a ∈ cellsOf (mC fd.scope.names binds ns s.heap.objs.size), s.heap.objs.size < a := fun a ha => by
      obtain ⟨n, hn, hl, rfl⟩ := mC_cells ha
      obtain ⟨c, hc⟩ := Option.isSome_iff_exists.mp (hs n hl (s.heap.objs.size + 1))
      rw [hc]; exact hab _ _ (mem_of_lookup hc)
    have fresh_none : ∀ a, s.heap.objs.size ≤ a → (hideAll s.heap (own.map (·.1))).get? a = none ∧ g a = none := fun a ha => by
      refine ⟨?_, ?_⟩
      · cases z : (hideAll s.heap (own.map (·.1))).get? a with
        | none => rfl
        | some o' => have := of_hideAll _ z; rw [none_of _ ha] at this; cases this
      · cases z : g a with
        | none => rfl
        | some o' => have := V.sub _ _ z; rw [none_of _ ha] at this; cases this
    have S : St G0 gls X g (mC fd.scope.names binds ns s.heap.objs.size) own h₁ := by
      refine ⟨⟨fn, hgl, hbl, fun p hp => ?_, fun p hp => ?_⟩, gb, by rw [mC_names]; exact nd, ?_, fun a ha => ?_, ?_, fun n c v hm => ?_, fun p hp => hk _ _ (V.ob p hp), fun n c v hm => ?_, fun b o' e => hk _ _ (of_hideAll _ e), fun b o' e => hk _ _ (V.sub _ _ e),
        fun b o' e => hideAll_get _ (kp _ _ e) fun q => ?_, VSub.refl g, fun a o' e => .inl e, ?_, V.gg⟩
      · obtain ⟨h1, h2⟩ := mC_mem hp
        refine ⟨(kd _ h1).2, ?_⟩
        rcases h2 with ⟨q1, q2⟩ | ⟨q1, q2⟩
        · rw [q2]
          obtain ⟨c, hc⟩ := Option.isSome_iff_exists.mp (hs _ q1 (s.heap.objs.size + 1))
          refine ⟨q1, ?_⟩
          show (cellsFrom (s.heap.objs.size + 1) fd.scope.names []).lookup p.1 = _
          rw [hc]; rfl
        · rw [q2]
          rcases (kd _ h1).1 with q | q
          · exact q
          · exact absurd q q1
      · have q := List.all_eq_true.mp k2 p hp
        simp only [Bool.and_eq_true, beq_iff_eq, Bool.not_eq_true'] at q
        exact q
      · show (s.heap.objs.size :: (cellsOf (mC fd.scope.names binds ns s.heap.objs.size) ++ own.map (·.1))).Nodup
        refine List.nodup_cons.mpr ⟨fun q => ?_, List.nodup_append.mpr ⟨mC_cells_nodup hap (fun n hn => hs n hn _) nd, V.dj, fun a ha b hb e => ?_⟩⟩
        · rcases List.mem_append.mp q with q | q
          · exact absurd (cell_ge _ q) (Nat.lt_irrefl _)
          · obtain ⟨p, hp, e⟩ := List.mem_map.mp q
            exact lt _ _ (V.ob p hp) e
        · subst e
          obtain ⟨p, hp, e⟩ := List.mem_map.mp hb
          have := Heap.lt_size (V.ob p hp)
          rw [e] at this
          exact absurd (cell_ge _ ha) (Nat.not_lt.mpr (Nat.le_of_lt this))
      · have ha' : a ∈ s.heap.objs.size :: (cellsOf (mC fd.scope.names binds ns s.heap.objs.size) ++ own.map (·.1)) := ha
        rcases List.mem_cons.mp ha' with rfl | q
        · exact fresh_none _ (Nat.le_refl _)
        · rcases List.mem_append.mp q with q | q
          · exact fresh_none _ (Nat.le_of_lt (cell_ge _ q))
          · obtain ⟨p, hp, rfl⟩ := List.mem_map.mp q
            exact ⟨hideAll_none _ q, V.hn p hp⟩
      · show h₁.Ns s.heap.objs.size (locOf (mC fd.scope.names binds ns s.heap.objs.size))
        have : locOf (mC fd.scope.names binds ns s.heap.objs.size) = bindL (callEnvC fd s.heap.objs.size f).kindOf binds fun _ => none := by
          funext y
          rw [mC_locOf, bindL_spec _ _ _ _ ndb, hK]
          by_cases hy : y ∈ ns
          · rw [if_pos hy]
            rcases (kd y hy).1 with q | q <;> simp [q]
          · rw [if_neg hy]
            have : binds.lookup y = none := lookup_notin fun q => by obtain ⟨p, hp, rfl⟩ := List.mem_map.mp q; exact hy (bn p hp)
            simp [this]
        rw [this]; exact hns
      · obtain ⟨h1, h2⟩ := mC_mem hm
        rcases h2 with ⟨q1, q2⟩ | ⟨q1, q2⟩
        · have q1' : fd.scope.names.lookup n = some .cell := q1
          obtain ⟨c', hc'⟩ := Option.isSome_iff_exists.mp (hs _ q1' (s.heap.objs.size + 1))
          have q2' : Slot.cell c v = .cell (((cellsFrom (s.heap.objs.size + 1) fd.scope.names []).lookup n).getD 0) (binds.lookup n) := q2
          rw [hc'] at q2'
          cases q2'
          have := hcell n c' hc'
          rw [bindC_spec _ _ _ _ ndb (by rw [hK, q1']; decide)] at this
          simpa using this
        · cases q2
      · exfalso
        obtain ⟨h1, h2⟩ := mC_mem hm
        rcases h2 with ⟨q1, q2⟩ | ⟨q1, q2⟩ <;> cases q2
      · obtain ⟨p, hp, rfl⟩ := List.mem_map.mp q
        have := V.gg _ _ e; rw [V.hn p hp] at this; cases this
      · exact Nat.le_refl _
    have en : Ente ⟨X.env, X.h₀, X.g₀, X.n₀, G0, gls, s⟩ g (own.map (·.1)) := ⟨rfl, rfl, fun b o' e n => hideAll_get _ e n⟩
    have := h ⟨X.env, X.h₀, X.g₀, X.n₀, G0, gls, s⟩ { s with heap := h₁, toks := tk } (A.deeper X.env) s.heap.objs.size r.deeper rfl rfl rfl en ⟨by rw [← hm]; exact S, rfl, z⟩
    exact wpAny_mono this (fun _ _ q => q) fun _ _ q => q.elim
end
end Mine

-- MStep
namespace Mine

section flow
variable {M : Model} {A : Around} {E : Value → Shared → Prop} {s : Shared} {env : Env}
noncomputable def Then (M : Model) (A : Around) (env : Env) (rest : List Stmt) (Q : Flow → Shared → Prop) (E : Value → Shared → Prop) : Flow → Shared → Prop := fun f s' => match f with | .next => wpAny M A (execs rest env) Q E s' | f => Q f s'
variable {rest : List Stmt} {Q : Flow → Shared → Prop}
/-- what follows a statement, behind a name of its own: the goals of its steps stay small -/
noncomputable def Back (K Q : Shared → Prop) : Prop := ∀ s, Q s → K s
noncomputable def BackF (K Q : Flow → Shared → Prop) : Prop := ∀ f s, Q f s → K f s
theorem b_go {K Q : Shared → Prop} (h : Back K Q) (q : Q s) : K s := h s q
theorem b_goF {K Q : Flow → Shared → Prop} {f : Flow} (h : BackF K Q) (q : Q f s) : K f s := h f s q
theorem then_next (h : wpAny M A (execs rest env) Q E s) : Then M A env rest Q E .next s := h
theorem then_ret {v : Value} (h : Q (.ret v) s) : Then M A env rest Q E (.ret v) s := h
theorem x_then {st : Stmt} (h : wpAny M A (exec st env) (Then M A env rest Q E) E s) : wpAny M A (execs (st :: rest) env) Q E s :=
  wpAny_execs_cons (wpAny_mono h (fun f s' h' => by cases f <;> exact h') fun _ _ e => e)
theorem x_nil (h : Q .next s) : wpAny M A (execs [] env) Q E s := wpAny_execs_nil h
theorem x_asg {x : Str} {p' pos : Pos} {value : Expr} (h : ∀ K, Back K (fun s₂ => wpAny M A (execs rest env) Q E s₂) → wpAny M A (eval value env) (fun v s₁ => wpAny M A (storeName env x v) (fun _ s₂ => K s₂) E s₁) E s)
    (hs : swapsWith value (some (.Name x p')) pos.line env = pure false := by rfl) : wpAny M A (execs (.Assign [.Name x p'] value pos :: rest) env) Q E s :=
  x_then (wpAny_Assign_Name (h _ fun _ q => q) hs)
theorem x_if {test : Expr} {body orelse : List Stmt} {pos : Pos} (h : ∀ K, BackF K (Then M A env rest Q E) → wpAny M A (isTrue test env (eval test env)) (fun b s₂ => if b = true then wpAny M A (execs body env) K E s₂ else wpAny M A (execs orelse env) K E s₂) E s) :
    wpAny M A (execs (.If test body orelse pos :: rest) env) Q E s := x_then (wpAny_If (h _ fun _ _ q => q))
theorem x_ret {e : Expr} {pos : Pos} (h : wpAny M A (eval e env) (fun v s' => Q (.ret v) s') E s) : wpAny M A (execs (.Return (some e) pos :: rest) env) Q E s :=
  x_then (wpAny_Return_some h)
theorem x_ret0 {pos : Pos} (h : Q (.ret .none) s) : wpAny M A (execs (.Return none pos :: rest) env) Q E s :=
  x_then (wpAny_Return_none h)
theorem x_expr {e : Expr} {pos : Pos} (h : ∀ K, Back K (fun s' => wpAny M A (execs rest env) Q E s') → wpAny M A (eval e env) (fun v s' => v = .none ∧ K s') E s)
    (hi : interactive env = false) (hs : swapsWith e none pos.line env = pure false := by rfl) : wpAny M A (execs (.Expr e pos :: rest) env) Q E s :=
  x_then (wpAny_Expr (wpAny_mono (h _ fun _ q => q) (fun v s' q => by obtain ⟨rfl, q⟩ := q; exact q) fun _ _ e => e) hi hs)
theorem x_for {target iter : Expr} {body : List Stmt} {pos : Pos}
    (h : ∀ K, BackF K (Then M A env rest Q E) → wpAny M A (eval iter env) (fun x s₁ => wpAny M A (pyIter x) (fun it s₂ => codeAny M A (.forLoop target it body [] env) (fun r s' => match r with | .ok f => K f s' | .error e => cameBackBy M A env E e s') s₂) E s₁) E s)
    (hs : ∀ x, foldedSetIterable iter env x = pure x := by intro _; rfl) : wpAny M A (execs (.For target iter body [] pos :: rest) env) Q E s := x_then (wpAny_For (h _ fun _ _ q => q) hs)
theorem i_t {P R : Prop} (h : P) : (if (true : Bool) = true then P else R) := h
theorem i_f {P R : Prop} (h : R) : (if (false : Bool) = true then P else R) := h
theorem i_dec {p : Prop} [Decidable p] {P R : Prop} (h1 : p → P) (h2 : ¬p → R) : (if decide p = true then P else R) := by
  by_cases h : p
  · simpa [h] using h1 h
  · simpa [h] using h2 h
theorem i_b {b : Bool} {P R : Prop} (h1 : b = true → P) (h2 : b = false → R) : (if b = true then P else R) := by
  cases b
  · simpa using h2 rfl
  · simpa using h1 rfl
theorem i_join {b : Bool} {x y : Sem Value} {J K : Value → Shared → Prop} (h : if b = true then wpAny M A x J E s else wpAny M A y J E s) (k : ∀ v s', J v s' → K v s') : if b = true then wpAny M A x K E s else wpAny M A y K E s := by
  cases b
  · simp only [Bool.false_eq_true, if_false] at h ⊢; exact wpAny_mono h k fun _ _ e => e
  · simp only [if_true] at h ⊢; exact wpAny_mono h k fun _ _ e => e
theorem i_yes {b : Bool} {P R : Prop} (hb : b = true) (h1 : P) : (if b = true then P else R) := by rw [if_pos hb]; exact h1
theorem i_no {b : Bool} {P R : Prop} (hb : b = false) (h1 : R) : (if b = true then P else R) := by rw [hb]; simpa using h1
end flow

section rules
variable {prog : Program} {w : World} {A : Around} {E : Value → Shared → Prop} {s : Shared}
variable {c : Cx} {g : Vis} {m m' : Loc} {news news' own rest : Led} {d : Nat}

theorem n_ld {nm : Str} {v : Value} {pos : Pos} {Q : Value → Shared → Prop} (S : Sn c g m news s) (a : At m nm v) (h : Q v s) : wpAny (model prog w) A (eval (.Name nm pos) c.env) Q E s := ev_ld S.st a h
theorem n_gl {nm : Str} {v : Value} {pos : Pos} {Q : Value → Shared → Prop} (S : Sn c g m news s) (a : (nm, v) ∈ c.gls) (h : Q v s) : wpAny (model prog w) A (eval (.Name nm pos) c.env) Q E s := ev_gl S.st a h
theorem n_st {nm : Str} {v : Value} {Q : Unit → Shared → Prop} (S : Sn c g m news s) (hset : Set nm v m m') (h : ∀ s', Sn c g m' news s' → Q () s') : wpAny (model prog w) A (storeName c.env nm v) Q E s :=
  stName S.st hset fun h' tk S' => h _ (S.to S')
theorem e_int {i : Int} {k : Nat} {pos : Pos} {Q : Value → Shared → Prop} {env : Env} (S : Sn c g m news s) (h : ∀ s' t, Sn c g m news s' → Q (.int i t) s') : wpAny (model prog w) A (eval (.Constant (.int i) k pos) env) Q E s :=
  wpAny_Constant_int (h _ _ S.tick)
theorem e_str {i : Str} {k : Nat} {pos : Pos} {Q : Value → Shared → Prop} {env : Env} (S : Sn c g m news s) (h : ∀ s' t, Sn c g m news s' → Q (.str i t) s') : wpAny (model prog w) A (eval (.Constant (.str i) k pos) env) Q E s :=
  wpAny_Constant_str (h _ _ S.tick)
theorem b_add {a b : Int} {t u : Tok} {Q : Value → Shared → Prop} (S : Sn c g m news s) (h : ∀ s' k, Sn c g m news s' → Q (.int (a + b) k) s') : wpAny (model prog w) A (binaryOp .Add (.int a t) (.int b u)) Q E s := P.add_int (h _ _ S.tick)
theorem b_sub {a b : Int} {t u : Tok} {Q : Value → Shared → Prop} (S : Sn c g m news s) (h : ∀ s' k, Sn c g m news s' → Q (.int (a - b) k) s') : wpAny (model prog w) A (binaryOp .Sub (.int a t) (.int b u)) Q E s := P.sub_int (h _ _ S.tick)
theorem b_mod {a b : Int} {t u : Tok} {Q : Value → Shared → Prop} (S : Sn c g m news s) (hb : b ≠ 0) (h : ∀ s' k, Sn c g m news s' → Q (.int (a.fmod b) k) s') : wpAny (model prog w) A (binaryOp .Mod (.int a t) (.int b u)) Q E s := mod_int' hb (h _ _ S.tick)
theorem b_neg {a : Int} {t : Tok} {Q : Value → Shared → Prop} (S : Sn c g m news s) (h : ∀ s' k, Sn c g m news s' → Q (.int (-a) k) s') : wpAny (model prog w) A (unaryOp .USub (.int a t)) Q E s := P.neg_int (h _ _ S.tick)

theorem m_append {l : Addr} {o : Obj} {pl : Sem Bool} {Q : Value × List Value → Shared → Prop} (S : Sn c g m news s) (hm : LMem l o news) (h : Q (.builtin "list.append", [.ref l]) s) (hc : o.cls = .type "list" := by rfl) (hd : o.dict = none := by rfl) :
    wpAny (model prog w) A (getMethod (.ref l) "append" pl) Q E s := Calls.getMethod_list_append (S.at hm) hc hd h
theorem r_app {l : Addr} {vs : List Value} {n : Nat} {v : Value} {Q : Value → Shared → Prop} (S : Sn c g m news s) (u : LUp l (lstO vs n) (lstO (vs ++ [v]) (n + 1)) news news')
    (h : ∀ s', Sn c g m news' s' → Q .none s') (hsz : vs.length ≤ sizeLine) : wpAny (model prog w) A (call (.builtin "list.append") ([.ref l] ++ [v])) Q E s := by
  obtain ⟨r, h1, h2⟩ := u.split
  have S1 := S.perm h1
  refine append_at (hsz := by simpa using hsz) (S1.at .hd) fun h' hs ho => ?_
  have e : (vs.toArray.push v) = (vs ++ [v]).toArray := by simp
  rw [e] at ho
  exact h _ (S.chg u hs ho)

theorem listMethod {name : Str} {id : String} {pl : Sem Bool} {l : Addr} {vs : List Value} {n : Nat} {Q : Value × List Value → Shared → Prop} (S : Sn c g m news s) (hm : LMem l (lstO vs n) news) (slot : PySem.Slot "list" name id)
    (hty : typeOf (.builtin id) = pure (.type "method_descriptor")) (h : Q (.builtin id, [.ref l]) s) : wpAny (model prog w) A (getMethod (.ref l) name pl) Q E s :=
  getMethod_list_of (items := vs.toArray) slot hty ⟨_, S.at hm, rfl, _, rfl⟩ ⟨_, S.at hm, rfl⟩ h
theorem m_pop {l : Addr} {vs : List Value} {n : Nat} {pl : Sem Bool} {Q : Value × List Value → Shared → Prop} (S : Sn c g m news s) (hm : LMem l (lstO vs n) news) (h : Q (.builtin "list.pop", [.ref l]) s) :
    wpAny (model prog w) A (getMethod (.ref l) "pop" pl) Q E s := listMethod S hm F.slot_list_pop F.type_list_pop h
theorem m_extend {l : Addr} {vs : List Value} {n : Nat} {pl : Sem Bool} {Q : Value × List Value → Shared → Prop} (S : Sn c g m news s) (hm : LMem l (lstO vs n) news) (h : Q (.builtin "list.extend", [.ref l]) s) :
    wpAny (model prog w) A (getMethod (.ref l) "extend" pl) Q E s := listMethod S hm F.slot_list_extend F.type_list_extend h
theorem r_pop {l : Addr} {vs : List Value} {v : Value} {n : Nat} {Q : Value → Shared → Prop} (S : Sn c g m news s) (u : LUp l (lstO (vs ++ [v]) n) (lstO vs (n + 1)) news news')
    (h : ∀ s', Sn c g m news' s' → Q v s') (hsz : vs.length < sizeLine) : wpAny (model prog w) A (call (.builtin "list.pop") [.ref l]) Q E s := by
  obtain ⟨r, h1, h2⟩ := u.split
  have S1 := S.perm h1
  have ho : s.heap.get? l = some (lstO (vs ++ [v]) n) := S1.at .hd
  refine call_meets F.slot_list_pop ⟨_, ho, rfl⟩ F.entry_list_pop (F.args_list_pop_1 _) (MeetsSeq.list_pop_last l (vs ++ [v]).toArray n v (by simp) (by simp; lia)) ⟨ho, ?_⟩
  show Q v _
  have hp : ((vs ++ [v]).toArray.eraseIdxIfInBounds ((vs ++ [v]).toArray.size - 1)) = vs.toArray := by
    simp only [List.eraseIdxIfInBounds_toArray, List.size_toArray, List.length_append, List.length_singleton, Nat.add_sub_cancel]
    rw [List.eraseIdx_append_of_length_le (Nat.le_refl _)]; simp
  have hn : Obj.mapSeq (fun xs => xs.eraseIdxIfInBounds ((vs ++ [v]).toArray.size - 1)) (lstO (vs ++ [v]) n) = lstO vs (n + 1) := by
    unfold Obj.mapSeq
    simp only [hp]
    rw [if_neg (by simp)]
  have h3 := Heap.get?_update_self (Obj.mapSeq fun xs => xs.eraseIdxIfInBounds ((vs ++ [v]).toArray.size - 1)) ho (by rw [hn]; rfl)
  rw [hn] at h3
  exact h _ (S.to (tk := s.toks) (S.chg (tk := s.toks) u (Heap.SameBut.update ..) h3).st)

theorem r_newL {vs : List Value} {Q : Value → Shared → Prop} (S : Sn c g m news s) (h : ∀ a s', c.n₀ ≤ a → Sn c g m ((a, lstO vs 0) :: news) s' → Q (.ref a) s') (hsz : vs.length ≤ sizeLine) : wpAny (model prog w) A (newList vs) Q E s :=
  wpAny_newObj_type (h _ _ S.sz (S.push (tk := s.toks) rfl)) (by show vs.toArray.size ≤ sizeLine; rw [List.size_toArray]; exact hsz)
theorem r_newT {vs : List Value} {Q : Value → Shared → Prop} (S : Sn c g m news s) (h : ∀ a s', c.n₀ ≤ a → Sn c g m ((a, tupO vs) :: news) s' → Q (.ref a) s') (hsz : vs.length ≤ sizeLine) : wpAny (model prog w) A (newTuple vs) Q E s :=
  wpAny_newObj_type (h _ _ S.sz (S.push (tk := s.toks) rfl)) (by show vs.toArray.size ≤ sizeLine; rw [List.size_toArray]; exact hsz)
theorem r_newTD {vs : List Value} {xs : List PyData} {Q : Value → Shared → Prop} (S : Sn c g m news s) (r : RdAll g vs xs) (h : ∀ a s' g', VSub g g' → Rd g' (.ref a) (.tuple xs) → Sn c g' m news s' → Q (.ref a) s') (hsz : vs.length ≤ sizeLine) :
    wpAny (model prog w) A (newTuple vs) Q E s := by
  refine r_newT S (fun a s' ha S' => ?_) hsz
  obtain ⟨g', hv, hg, S2⟩ := S'.lock .hd ha
  exact h a s' g' hv (.tup hg (r.up hv)) S2
theorem r_newLD {vs : List Value} {xs : List PyData} {Q : Value → Shared → Prop} (S : Sn c g m news s) (r : RdAll g vs xs) (h : ∀ a s' g', VSub g g' → Rd g' (.ref a) (.list xs) → Sn c g' m news s' → Q (.ref a) s') (hsz : vs.length ≤ sizeLine) :
    wpAny (model prog w) A (newList vs) Q E s := by
  refine r_newL S (fun a s' ha S' => ?_) hsz
  obtain ⟨g', hv, hg, S2⟩ := S'.lock .hd ha
  exact h a s' g' hv (.lst hg (r.up hv)) S2

theorem s_dict {d : Addr} {oD : Obj} {kvs : List (Str × Value)} {key : Str} {t : Tok} {v : Value} {value slice : Expr} {ops : List Value} {Q : Value → Shared → Prop} (S : Sn c g m news s) (hm : s.heap.get? d = some oD) (hD : oD.IsDictOf (strKind prog w) kvs) (hv : valueAt kvs key = some v)
    (h : ∀ s', Sn c g m news s' → Q v s') (hs : subscripted slice false (.ref d) (.str key t) = operate ops (getItem (.ref d) (.str key t)) := by with_unfolding_all rfl) :
    wpAny (model prog w) A (subscriptTail value slice (.ref d) (.str key t)) Q E s := by
  have hd : s.heap.DictOf (strKind prog w) d kvs := Heap.dictOf_iff.mpr ⟨_, hm, hD⟩
  exact tail_any hd.mapOf.typeIs slot_dict_getitem.lookup (wpAny_getItem_of (strKind_is prog w key t) hd.mapOf hv (h _ S.tick)) hs
theorem s_tup {a : Addr} {vs : List Value} {n : Nat} {k : Int} {t : Tok} {j : Nat} {v : Value} {value slice : Expr} {ops : List Value} {Q : Value → Shared → Prop} (S : Sn c g m news s) (hg : g a = some { cls := .type "tuple", data := .seq (List.toArray vs) n })
    (hlo : -(2 ^ 63) ≤ k) (hhi : k < 2 ^ 63) (hj : seqIndex? k vs.length = some j) (hx : vs[j]? = some v) (h : Q v s)
    (hs : subscripted slice false (.ref a) (.int k t) = operate ops (getItem (.ref a) (.int k t)) := by with_unfolding_all rfl) :
    wpAny (model prog w) A (subscriptTail value slice (.ref a) (.int k t)) Q E s :=
  tail_any (S.st.isTup hg).typeIs slot_tuple_getitem.lookup (getItem_tuple (S.st.isTup hg) hlo hhi (by simpa using hj) (by simpa using hx) h) hs
theorem s_lst {a : Addr} {vs : List Value} {n : Nat} {k : Int} {t : Tok} {v : Value} {value slice : Expr} {ops : List Value} {Q : Value → Shared → Prop} (_S : Sn c g m news s) (hg : s.heap.get? a = some { cls := .type "list", data := .seq (List.toArray vs) n })
    (h0 : 0 ≤ k) (hfit : k < 2 ^ 63) (hx : vs[k.toNat]? = some v) (h : Q v s)
    (hs : subscripted slice false (.ref a) (.int k t) = operate ops (getItem (.ref a) (.int k t)) := by with_unfolding_all rfl) :
    wpAny (model prog w) A (subscriptTail value slice (.ref a) (.int k t)) Q E s :=
  have hl : s.heap.IsList a vs.toArray := ⟨_, hg, rfl, n, rfl⟩
  tail_any hl.typeIs slot_list_getitem.lookup (wpAny_getItem_list hl h0 hfit (by simpa using hx) h) hs

/-- a def of the top -/
noncomputable def FnAt (G0 : Heap) (f : Addr) : Prop := ∃ o fd, G0.get? f = some o ∧ o.data = .func fd
theorem e_callF {pos : Pos} {f : Addr} {first : List Value} {e : Expr} {rest : List Expr} {Q : Value → Shared → Prop} (hf : FnAt c.G0 f)
    (h : wpAny (model prog w) A (spliced (backTo pos (starEach (e :: rest) c.env))) (fun vs s₁ => (∃ g m news, Sn c g m news s₁) ∧ wpAny (model prog w) A (call (.ref f) (first ++ vs)) Q E s₁) E s)
    (he : starEach (e :: rest) c.env = (false, eval e c.env) :: starEach rest c.env := by rfl) :
    wpAny (model prog w) A (callWith pos (.ref f) first (backTo pos (starEach (e :: rest) c.env)) []) Q E s := by
  obtain ⟨o, fd, ho, hd⟩ := hf
  exact callF (o := o) (fd := fd) (wpAny_mono h (fun vs s₁ q => by obtain ⟨⟨_, _, _, S⟩, q⟩ := q; exact ⟨⟨S.top ho, hd⟩, q⟩) fun _ _ e => e) he
theorem e_callF0 {pos : Pos} {f : Addr} {first : List Value} {Q : Value → Shared → Prop} (S : Sn c g m news s) (hf : FnAt c.G0 f)
    (h : wpAny (model prog w) A (call (.ref f) first) Q E s) : wpAny (model prog w) A (callWith pos (.ref f) first (backTo pos (starEach [] c.env)) []) Q E s := by
  obtain ⟨o, fd, ho, hd⟩ := hf
  exact callF0 (S.top ho) hd h
theorem e_callG {pos : Pos} {f : Addr} {e : Expr} {rest : List Expr} {Q : Value → Shared → Prop} (hf : FnAt c.G0 f)
    (h : wpAny (model prog w) A (spliced (backTo pos (starEach (e :: rest) c.env))) (fun vs s₁ => (∃ g m news, Sn c g m news s₁) ∧ wpAny (model prog w) A (call (.ref f) vs) Q E s₁) E s)
    (he : starEach (e :: rest) c.env = (false, eval e c.env) :: starEach rest c.env) : wpAny (model prog w) A (callWith pos (.ref f) [] (backTo pos (starEach (e :: rest) c.env)) []) Q E s := e_callF hf h he
theorem e_callM {pos : Pos} {f : Addr} {self : Value} {e : Expr} {rest : List Expr} {Q : Value → Shared → Prop} (hf : FnAt c.G0 f)
    (h : wpAny (model prog w) A (spliced (backTo pos (starEach (e :: rest) c.env))) (fun vs s₁ => (∃ g m news, Sn c g m news s₁) ∧ wpAny (model prog w) A (call (.ref f) (self :: vs)) Q E s₁) E s)
    (he : starEach (e :: rest) c.env = (false, eval e c.env) :: starEach rest c.env) : wpAny (model prog w) A (callWith pos (.ref f) [self] (backTo pos (starEach (e :: rest) c.env)) []) Q E s := e_callF hf h he
theorem x_exprS {e : Expr} {pos : Pos} {rest : List Stmt} {Q : Flow → Shared → Prop} (S : Sn c g m news s) (h : ∀ K, Back K (fun s' => wpAny (model prog w) A (execs rest c.env) Q E s') → wpAny (model prog w) A (eval e c.env) (fun v s' => v = .none ∧ K s') E s)
    (hs : swapsWith e none pos.line c.env = pure false) : wpAny (model prog w) A (execs (.Expr e pos :: rest) c.env) Q E s :=
  x_expr h (by unfold interactive; have : c.env.scope.kind = .function := S.st.ok.fn; rw [this]; rfl) hs
theorem none_and {P : Prop} (h : P) : Value.none = Value.none ∧ P := ⟨rfl, h⟩
theorem sn_any (S : Sn c g m news s) {R : Prop} (h : R) : (∃ g m news, Sn c g m news s) ∧ R := ⟨⟨_, _, _, S⟩, h⟩
end rules

/-- what is known of the top -/
structure Tp (w : World) (G0 : Heap) : Prop where
  K : (KK w.params).In G0
  nolim : G0.NoLimit
  gl : ∃ mg mb, G0.Ns mainGlobals mg ∧ G0.Ns builtinsNs mb ∧ (∀ x v, nsIn (KK w.params) mainGlobals x = some v → mg x = v) ∧ ∀ x : Str, x ≠ "__name__" → mb x = bootBuiltins x
theorem Tp.fn {w : World} {G0 : Heap} (T : Tp w G0) {f : Addr} {o : Obj} {fd : FuncData} (h : (KK w.params).lookup f = some o) (hd : o.data = .func fd) : FnAt G0 f := ⟨o, fd, T.K f o h, hd⟩
noncomputable def fnB (K : Frag) (f : Addr) : Bool := match K.lookup f with
  | some o => match o.data with | .func _ => true | _ => false
  | none => false
theorem Tp.fnB {w : World} {G0 : Heap} (T : Tp w G0) {f : Addr} (h : fnB (KK w.params) f = true) : FnAt G0 f := by
  unfold Mine.fnB at h
  split at h
  · rename_i o ho
    split at h
    · rename_i fd hd; exact ⟨o, fd, T.K f o ho, hd⟩
    · cases h
  · cases h
noncomputable def glOk (P : Params) (p : Str × Value) : Prop := nsIn (KK P) mainGlobals p.1 = some (some p.2) ∨ (nsIn (KK P) mainGlobals p.1 = some none ∧ p.1 ≠ "__name__" ∧ bootBuiltins p.1 = some p.2)
theorem gl_ref {P : Params} {n : Str} {a : Addr} (h : nsIn (KK P) mainGlobals n = some (some (.ref a))) : glOk P (n, .ref a) := .inl h
theorem gl_int {P : Params} {n : Str} {i : Int} {t : Tok} (h : nsIn (KK P) mainGlobals n = some (some (.int i t))) : glOk P (n, .int i t) := .inl h
theorem gl_type {P : Params} {n : Str} {a : String} (h : nsIn (KK P) mainGlobals n = some none) (h2 : (n == ("__name__" : Str)) = false) (h3 : bootBuiltins n = some (.type a)) : glOk P (n, .type a) := .inr ⟨h, by simpa using h2, h3⟩
theorem gl_bi {P : Params} {n : Str} {a : String} (h : nsIn (KK P) mainGlobals n = some none) (h2 : (n == ("__name__" : Str)) = false) (h3 : bootBuiltins n = some (.builtin a)) : glOk P (n, .builtin a) := .inr ⟨h, by simpa using h2, h3⟩
theorem glAll_nil {P : Params} : ∀ p ∈ ([] : List (Str × Value)), glOk P p := fun _ h => nomatch h
theorem glAll_cons {P : Params} {p : Str × Value} {r : List (Str × Value)} (h : glOk P p) (k : ∀ q ∈ r, glOk P q) : ∀ q ∈ p :: r, glOk P q := fun q hq => by
  rcases List.mem_cons.mp hq with rfl | hq
  · exact h
  · exact k q hq
theorem Tp.glb {w : World} {G0 : Heap} (T : Tp w G0) {gls : List (Str × Value)} (h : ∀ p ∈ gls, glOk w.params p) : Glb G0 gls := by
  obtain ⟨mg, mb, a, b, k1, k2⟩ := T.gl
  refine ⟨mg, mb, a, b, fun p hp => ?_⟩
  rcases h p hp with q | ⟨q1, q2, q3⟩
  · exact .inl (k1 _ _ q)
  · exact .inr ⟨k1 _ _ q1, by rw [k2 _ q2]; exact q3⟩
end Mine

-- HA
namespace Mine
noncomputable abbrev rw1 : OpenLaw := PySem.Challenge.rw_nm0144_01
noncomputable abbrev P1 : Program := rw1.row.prog
theorem lk {a b : Bool} (x : a = true) (y : b = true) : (a && b) = true := by rw [x, y]; rfl
theorem lk1f : PySem.W.Fast.tw11788848310118352699 P1.main = true := by kernel_rfl
theorem lk1 : sreFenced P1.main = true := (congrFun PySem.W.Fast.te11788848310118352699 P1.main).trans lk1f
theorem lk2 : ((moduleNames P1.main.body).isEmpty || lookedIntoSs (moduleNames P1.main.body) P1.main.body) = true := by kernel_rfl
theorem lk3f : PySem.W.Fast.tw8377067652309620493 P1 = true := by kernel_rfl
theorem lk3 : namesResolve P1 = true := (congrFun PySem.W.Fast.te8377067652309620493 P1).trans lk3f
theorem lk4 : (P1.boundNames.all (fun n => !worldNames.contains n)) = true := by kernel_rfl
theorem lk5 : (noRoadLSs { strict := !(importedModules P1.main.body).all cThrough.contains, foot := none, bare := (["vars", "dir", "locals"] : List Str).filter (readsOut P1 P1.main.body) } P1.main.body) = true := by kernel_rfl
theorem lk6 : (namesMeet P1 P1.main.body fun _ n => attrL n) = true := by kernel_rfl
theorem lk_open : looksOpen P1 = true := by
  unfold looksOpen
  exact lk (lk (lk (lk (lk lk1 lk2) lk3) lk4) lk5) lk6
theorem lk_part : rw1.row.partSaid = true := by
  unfold OpenRow.partSaid
  refine lk (lk (lk (lk (lk (lk (lk (lk (lk (lk (lk (lk (lk lk_open ?_) ?_) ?_) ?_) ?_) ?_) ?_) ?_) ?_) ?_) ?_) ?_) ?_ <;> kernel_rfl
theorem lk_row : rw1.row.wellSaid = true := by
  unfold OpenRow.wellSaid
  refine lk (lk lk_part ?_) ?_ <;> kernel_rfl
set_option maxHeartbeats 4000000 in
theorem law_said : OpenLaw.wellSaid rw1 = true := by
  unfold OpenLaw.wellSaid
  refine lk (lk (lk (lk (lk (lk (lk (lk (lk (lk (lk (lk (lk (lk (lk (lk (lk (lk lk_row ?_) ?_) ?_) ?_) ?_) ?_) ?_) ?_) ?_) ?_) ?_) ?_) ?_) ?_) ?_) ?_) ?_) ?_ <;> kernel_rfl
end Mine

-- HB
namespace Mine
noncomputable def runG (thr ok : Thread → Bool) (st : SharedT → Thread → Option (SharedT × Thread)) : Nat → SharedT → Thread → Option SharedT
  | 0, _, _ => none
  | n + 1, s, t => match thr t with
    | true => some s
    | false => match ok t with
      | false => none
      | true => match st s t with
        | some (s', t') => runG thr ok st n s' t'
        | none => none
theorem runG_of {tb : String → Option Builtin} {p : Program} {w : World} {n₀ : Nat} {ann : Option Value} {n : Nat} : ∀ {s s' : SharedT} {t : Thread}, runG through (stepOk n₀ ann) (stepT (denote tb) p w) n s t = some s' → topRun tb p w n₀ ann n s.abs t = some s'.abs := by
  induction n with
  | zero => intro s s' t h; cases h
  | succ n ih =>
    intro s s' t h
    have h : (match through t with | true => some s | false => match stepOk n₀ ann t with | false => none | true => match stepT (denote tb) p w s t with | some (s', t') => runG through (stepOk n₀ ann) (stepT (denote tb) p w) n s' t' | none => none) = some s' := h
    unfold topRun
    cases he : through t with
    | true => rw [he] at h; cases h; rfl
    | false =>
      rw [he] at h
      cases hk : stepOk n₀ ann t with
      | false => rw [hk] at h; cases h
      | true =>
        rw [hk] at h
        cases hs : stepT (denote tb) p w s t with
        | none => rw [hs] at h; cases h
        | some r => obtain ⟨s₂, t₂⟩ := r; rw [hs] at h; rw [stepT_spec hs]; exact ih h
noncomputable def btOf (l : List Obj) : BT := (l.foldl (fun (x : BT × Nat) o => (x.1.ins x.2 o, x.2 + 1)) (.nil, 0)).1
noncomputable def s0 (w : World) (os : OsState) : SharedT := ⟨btOf (boot_heap w.params).objs.toList, 11, {}, #[], boot_drawn, boot_toks, os⟩
theorem s0_abs (w : World) (os : OsState) : (s0 w os).abs = ⟨boot_heap w.params, #[], boot_drawn, boot_toks, os⟩ := by kernel_rfl
noncomputable def qq : Program := view pw [83]
noncomputable def lse : List Str := pw.boundNames.filter fun n => !(n == ("law" : Str))
noncomputable def obsK (s : Shared) : List (Option Obj) × Nat := (asK.map s.heap.get?, s.heap.objs.size)
noncomputable def seeA (s : SharedT) (a : Addr) : Option Obj := match Nat.blt a s.n with
  | true => alive ((s.tree.get a).getD default)
  | false => none
noncomputable def obsT (s : SharedT) : List (Option Obj) × Nat := (asK.map (seeA s), s.n)
theorem seeA_abs (s : SharedT) (a : Addr) : s.abs.heap.get? a = seeA s a := by
  show (absHeap s.tree s.n s.life).get? a = _
  unfold Heap.get? seeA
  rw [absHeap_at]
  cases h : Nat.blt a s.n with
  | true =>
    rw [if_pos (show a < s.n from Nat.le_of_ble_eq_true h)]
    show (match some ((s.tree.get a).getD default) with | some ⟨_, _, .freed, _⟩ => none | o => o) = alive _
    obtain ⟨c, d, dt, sl⟩ := (s.tree.get a).getD default
    cases dt <;> rfl
  | false =>
    rw [if_neg fun q : a < s.n => by rw [Nat.blt, Nat.ble_eq_true_of_le q] at h; cases h]
theorem obs_abs (s : SharedT) : obsK s.abs = obsT s := by
  unfold obsK obsT
  rw [show s.abs.heap.get? = seeA s from funext (seeA_abs s), show s.abs.heap.objs.size = s.n from absHeap_size ..]
noncomputable def valK (w : World) : List (Option Obj) × Nat := ((KK w.params).map fun p => some p.2, 540)

noncomputable abbrev stA := PySem.W.Fast.tw10156331382660048174
noncomputable abbrev okA := PySem.W.Fast.tw6613529449190102663
noncomputable abbrev denA := PySem.W.Fast.tw11892475500146522536 PySem.W.Fast.tw14364793385576792824
noncomputable def lookA (P : Params) (s : Shared) : Bool := staticsOk (importedModules pw.main.body) (boot_heap P) s.heap && namesBound pw s.heap && gensDone s && laidKept (boot_heap P) s.heap
noncomputable def lookB (s : Shared) := openSeen qq lse (importedModules pw.main.body) (fun _ => true) true s

noncomputable abbrev rowS : String := "special-get-raises"
noncomputable def seeK (w : World) (os : OsState) (thr ok : Thread → Bool) (st : SharedT → Thread → Option (SharedT × Thread)) := (runG thr ok st 4400 (s0 w os) (topStub pw)).map fun s => (lookA w.params s.abs, lookB s.abs, obsT s)
theorem run_t (w : World) (os : OsState) : seeK (w.withFollow rowS true) os through (okA 11 (some (.ref 6))) (stA denA pw (w.withFollow rowS true)) = some (true, openGood qq lse, valK (w.withFollow rowS true)) := by kernel_rfl
theorem run_f (w : World) (os : OsState) : seeK (w.withFollow rowS false) os through (okA 11 (some (.ref 6))) (stA denA pw (w.withFollow rowS false)) = some (true, openGood qq lse, valK (w.withFollow rowS false)) := by kernel_rfl
theorem run_w (w : World) (os : OsState) : seeK w os through (stepOk 11 (some (.ref 6))) (stepT (denote treeTable) pw w) = some (true, openGood qq lse, valK w) := by
  rw [PySem.W.Fast.te10156331382660048174, PySem.W.Fast.te6613529449190102663, PySem.W.Fast.te11892475500146522536, PySem.W.Fast.te14364793385576792824]
  have e := World.withFollow_self w rowS
  cases hb : w.params.followText rowS with
  | true => rw [hb] at e; rw [← e]; exact run_t w os
  | false => rw [hb] at e; rw [← e]; exact run_f w os
theorem size_b (P : Params) : ((boot_heap P).isNs mainGlobals && (#[] : Array GenState).size == 0, (boot_heap P).objs.size, (boot_heap P).nsMap mainGlobals "__annotations__") = (true, 11, some (Value.ref 6)) := by kernel_rfl
theorem open_plain : opening pw = plainProg pw.main.scope.names := by kernel_rfl
theorem fence_none (s : Shared) : fenceModules? pw s = some s := by kernel_rfl
theorem left : LeftO pw qq lse (fun _ => true) obsK valK 4400 := fun w => by
  obtain ⟨⟨h, gs, d, k, os⟩, e, e'⟩ := Option.map_eq_some_iff.mp (boot_open (N := 4400) open_plain (by decide +kernel) fence_none w)
  obtain ⟨rfl, rfl, rfl, rfl⟩ : h = boot_heap w.params ∧ gs = #[] ∧ d = boot_drawn ∧ k = boot_toks := by simpa using e'
  obtain ⟨S, r1, r2⟩ := Option.map_eq_some_iff.mp (run_w w os)
  have r3 := runG_of r1
  rw [s0_abs] at r3
  obtain ⟨l1, l2, l3⟩ : _ ∧ _ ∧ _ := by simpa only [Prod.mk.injEq] using r2
  obtain ⟨z1, z2, z3⟩ : _ ∧ _ ∧ _ := by simpa only [Prod.mk.injEq] using size_b w.params
  have t : topFrom treeTable pw w 4400 ⟨boot_heap w.params, #[], boot_drawn, boot_toks, os⟩ = some S.abs := by
    unfold topFrom
    dsimp only
    rw [z1, z2, z3, r3]
    show (match staticsOk (importedModules pw.main.body) (boot_heap w.params) S.abs.heap && namesBound pw S.abs.heap && gensDone S.abs && laidKept (boot_heap w.params) S.abs.heap with | true => _ | false => _) = _
    have l1' : (staticsOk (importedModules pw.main.body) (boot_heap w.params) S.abs.heap && namesBound pw S.abs.heap && gensDone S.abs && laidKept (boot_heap w.params) S.abs.heap) = true := l1
    rw [l1']
  unfold openEnds
  rw [e]
  show (topFrom treeTable pw w 4400 _).map _ = _
  rw [t]
  exact congrArg some (Prod.ext l2 ((obs_abs S).trans l3))
end Mine

-- HC
namespace Mine
theorem asK_eq (P : Params) : asK = (KK P).map (·.1) := by kernel_rfl
theorem ok_said : (chainsOk qq && opensWell pw && (frees (OpenRow.toRowW rw1.row) && rw1.row.within.isEmpty)) = true := by kernel_rfl
theorem law_promised : (OpenRow.toRowW rw1.row).promised := ⟨[.list []], by decide +kernel, by decide +kernel⟩
theorem ints_reads {R : WRecords} {cl : Str → Option Addr} {h : Heap} : ∀ (ns : List Int) {vs : List Value} {as : List Addr}, ReadsAllW R cl h vs (ns.map .int) as → IntsAre vs ns := fun ns => by
  induction ns with
  | nil => intro vs as r; cases r; exact .nil
  | cons n ns ih =>
    intro vs as r
    cases r with
    | cons a b => cases a; exact .cons _ _ (ih b)
theorem pre_len {ns : List Int} (q : (OpenLaw.pre rw1).holds [] { args := [.list (ns.map .int)] } = true) : ns.length ≤ 63 := by
  have e : OpenLaw.pre rw1 = .and (.not (.lt (.lit (.int 63)) (.len (.arg 0)))) (.lit (.bool true)) := rfl
  rw [e] at q
  by_cases z : (63 : Int) < ns.length
  · have hl : less? (.int 63 : WData) (.int (ns.length : Nat)) = some true := by
      show some (decide ((63 : Int) < (ns.length : Nat))) = _
      rw [decide_eq_true z]
    simp [WTm.holds, WTm.value, hl] at q
  · omega
theorem ofPys_ints (ns : List Int) : (.list (ns.map .int) : WData) = ofPy (.list (ns.map .int)) := by
  have : ∀ ns : List Int, ns.map WData.int = ofPys (ns.map .int) := fun ns => by
    induction ns with
    | nil => rfl
    | cons n r ih => simp only [List.map_cons, ofPys, ofPy, ih]
  rw [this]; rfl
theorem post_ok (args ds : List WData) : (OpenRow.toRowW rw1.row).claim.post args (.bool true) ds = true := by kernel_rfl
/-- what the walk of law has to show -/
noncomputable def LawCt : Prop := ∀ (w : World) (G0 : Heap) (_ : Tp w G0) (g : Vis) (t : Addr) (vs : List Value) (ns : List Int) (n : Nat), g t = some { cls := .type "list", data := .seq vs.toArray n } → IntsAre vs ns → ns.length ≤ 63 →
  Ct pw w G0 40 (.ref 539) [.ref t] g [] fun v _ _ => v = .bool true
theorem holds_of (C : LawCt) : rw1.Holds := by
  refine holds_law law_said fun said => ?_
  refine holds_openX (q := qq) (loose := lse) (Xt := fun _ => true) (XP := fun _ _ => True) (Yf := obsK) (Ya := valK) (N := 4400) left (fun _ _ => trivial) (fun _ _ _ _ _ => trivial) (by rfl) (by rfl) (by rfl) (fun s _ => recFacts_of (by rfl)) (by rfl) said ok_said ⟨rfl, rfl, rfl, rfl, rfl, by decide +kernel⟩ law_promised ?_
  intro w s₀ s₁ mg mb G Y a o pm cd doc dV kV ho hd hcd hD hmg hg args vals as L hpre hlay hrd hwl hlo
  have y1 : asK.map s₀.heap.get? = (KK w.params).map fun p => some p.2 := congrArg Prod.fst Y
  have K0 : (KK w.params).In s₀.heap := InK.of (K := KK) asK_eq w s₀ y1
  have K1 : (KK w.params).In s₁.heap := K0.keeps L.keeps
  have ea : a = 539 := by
    have := mg_of (n := "law") K1 G.T.g (v := .ref 539) (by kernel_rfl)
    have h2 : mg "law" = some (.ref a) := hmg
    rw [this] at h2; cases h2; rfl
  subst ea
  have T : Tp w s₁.heap := by
    refine ⟨K1, G.T.nolimit, mg, mb, G.T.g, G.T.b, fun x v e => ?_, G.T.builtins⟩
    cases v with
    | none => exact mg_none_of K1 G.T.g e
    | some v => exact mg_of K1 G.T.g e
  obtain ⟨p1, p2⟩ := pre_splitW hpre
  obtain ⟨d, r, rfl, d1, d2⟩ := hasAllW_cons p1
  cases r with
  | cons => cases d2
  | nil =>
  obtain ⟨xs, rfl, hi⟩ := hasW_list d1
  obtain ⟨ns, rfl⟩ := items_int hi
  have hlen : ns.length ≤ 63 := pre_len p2
  cases hrd with
  | cons hr hr2 =>
  cases hr2
  cases hr with
  | @list t o' vs n _ as' e1 e2 e3 e4 =>
  have isI := ints_reads _ e4
  have hm : Rm callerA 40 := ⟨rfl, by decide +kernel, by decide +kernel⟩
  rw [ofPys_ints] at L
  have ho' := X.script_obj (ns := ns) L ⟨_, e1, e2, _, e3⟩
  have V : Vw s₁.heap s₁.heap s₁.heap.get? [] := ⟨fun _ _ e => e, fun _ h => (nomatch h), List.nodup_nil, fun _ h => (nomatch h), fun _ _ e => e⟩
  refine wpAny_mono (C w s₁.heap T s₁.heap.get? t vs.toList ns 0 (by simpa using ho') isI hlen callerA s₁ _ hm V (Nat.le_refl _)) (fun v s' ho => ?_) fun _ _ e => e
  obtain ⟨h', tk, g', own', rfl, hk, _, _, _, _, _, _, rfl⟩ := ho
  refine ⟨.inl ⟨.bool true, .bool true, [], rfl, fun cls => rfl, .bool _, post_ok _ _, fun _ => ⟨List.nodup_nil, fun _ h => (nomatch h)⟩⟩, .of_keep fun b o e => hk b o e (fun q => (nomatch q)), rfl, .of_eq hg⟩
end Mine

-- MLoop
namespace Mine

theorem LUp.app {a : Addr} {o o' : Obj} {own r r' : Led} (h : LUp a o o' r r') : LUp a o o' (own ++ r) (own ++ r') := by
  induction own with
  | nil => exact h
  | cons p _ ih => exact .tl ih
theorem LDel.app {a : Addr} {o : Obj} {own r r' : Led} (h : LDel a o r r') : LDel a o (own ++ r) (own ++ r') := by
  induction own with
  | nil => exact h
  | cons p _ ih => exact .tl ih
theorem LMem.app {a : Addr} {o : Obj} {own r : Led} (h : LMem a o r) : LMem a o (own ++ r) := by
  induction own with
  | nil => exact h
  | cons p _ ih => exact .tl ih

theorem LUp.ac {a : Addr} {o o' : Obj} {p : Addr × Obj} {r t r' : Led} (h : LUp a o o' (p :: (r ++ t)) r') : LUp a o o' ((p :: r) ++ t) r' := h
theorem LUp.an {a : Addr} {o o' : Obj} {t r' : Led} (h : LUp a o o' t r') : LUp a o o' ([] ++ t) r' := h
theorem LDel.ac {a : Addr} {o : Obj} {p : Addr × Obj} {r t r' : Led} (h : LDel a o (p :: (r ++ t)) r') : LDel a o ((p :: r) ++ t) r' := h
theorem LDel.an {a : Addr} {o : Obj} {t r' : Led} (h : LDel a o t r') : LDel a o ([] ++ t) r' := h
theorem LMem.ac {a : Addr} {o : Obj} {p : Addr × Obj} {r t : Led} (h : LMem a o (p :: (r ++ t))) : LMem a o ((p :: r) ++ t) := h
theorem LMem.an {a : Addr} {o : Obj} {t : Led} (h : LMem a o t) : LMem a o ([] ++ t) := h
inductive IsTgt : Expr → Prop
  | name {x p} : IsTgt (.Name x p)
  | tup {es k p} : IsTgt (.Tuple es k p)

structure Itr (prog : Program) (w : World) (nmOk : Bool) (it : Value) (n : Nat) (P : Nat → Vis → Value → Prop) (T : Nat → Vis → Led → Prop) : Prop where
  up : ∀ {i g g' own}, T i g own → VSub g g' → T i g' own
  item : ∀ {A : Around} {c : Cx} {g m} {own rest : Led} {s : Shared} {i : Nat} {target : Expr} {K : Value → Shared → Prop} {E : Value → Shared → Prop}, A.handled = none → T i g own → i < n → Sn c g m (own ++ rest) s → IsTgt target → (nmOk = true ∨ ∃ es k p, target = .Tuple es k p) →
    (∀ v g' own' s', VSub g g' → P i g' v → T (i + 1) g' own' → own'.map (·.1) = own.map (·.1) → Sn c g' m (own' ++ rest) s' → K v s') →
    wpAny (model prog w) A (pyNext it) (fun r s₁ => ∃ v, r = some v ∧ wpAny (model prog w) A (letOwnedTupleGo target it v) (fun _ s' => K v s') E s₁) E s
  done : ∀ {A : Around} {c : Cx} {g m} {own rest : Led} {s : Shared} {Q : Option Value → Shared → Prop} {E : Value → Shared → Prop}, A.handled = none → T n g own → Sn c g m (own ++ rest) s → (∀ s', Sn c g m rest s' → Q none s') → wpAny (model prog w) A (pyNext it) Q E s
  self : ∀ {A : Around} {c : Cx} {g m} {own rest : Led} {s : Shared} {i : Nat} {Q : Value → Shared → Prop} {E : Value → Shared → Prop}, T i g own → Sn c g m (own ++ rest) s → Q it s → wpAny (model prog w) A (pyIter it) Q E s

noncomputable def LoopQ (c : Cx) (g : Vis) (own : Led) (J : Vis → Loc → Led → Prop) (Q : Flow → Shared → Prop) : Flow → Shared → Prop := fun f s' => match f with
  | .next | .cont => ∃ g' m' news', VSub g g' ∧ J g' m' news' ∧ Sn c g' m' (own ++ news') s'
  | .brk => False
  | .ret v => Q (.ret v) s'
theorem loop_next {c : Cx} {g g' : Vis} {m' : Loc} {own news' : Led} {J : Vis → Loc → Led → Prop} {Q : Flow → Shared → Prop} {s : Shared} (h : VSub g g') (j : J g' m' news') (S : Sn c g' m' (own ++ news') s) : LoopQ c g own J Q .next s := ⟨g', m', news', h, j, S⟩
theorem loop_ret {c : Cx} {g : Vis} {own : Led} {J : Vis → Loc → Led → Prop} {Q : Flow → Shared → Prop} {v : Value} {s : Shared} (h : Q (.ret v) s) : LoopQ c g own J Q (.ret v) s := h

section
variable {prog : Program} {w : World} {A : Around} {E : Value → Shared → Prop} {s : Shared}
variable {c : Cx} {g : Vis} {m m' : Loc} {news news' own rest : Led} {d : Nat}

/-- own objects go, and the heap may have changed there -/
theorem Sn.goneW {h' : Heap} {tk : Nat} (S : Sn c g m (own ++ rest) s) (hs : ∀ b o', b ∉ own.map (·.1) → s.heap.get? b = some o' → h'.get? b = some o') : Sn c g m rest { s with heap := h', toks := tk } := by
  have nin : ∀ a ∈ own.map (·.1), a ∉ owns c.env.locals m rest := fun a ha hm => by
    have dj := S.st.dj
    have dj2 := List.nodup_append.mp (List.nodup_cons.mp dj).2
    rcases List.mem_cons.mp hm with q | q
    · exact (List.nodup_cons.mp dj).1 (q ▸ List.mem_append_right _ (by rw [List.map_append]; exact List.mem_append_left _ ha))
    · rcases List.mem_append.mp q with q | q
      · exact dj2.2.2 a q a (by rw [List.map_append]; exact List.mem_append_left _ ha) rfl
      · have d3 := dj2.2.1
        rw [List.map_append] at d3
        exact (List.nodup_append.mp d3).2.2 a ha a q rfl
  have inW : ∀ a, a ∈ own.map (·.1) → a ∈ owns c.env.locals m (own ++ rest) := fun a ha => .tail _ (List.mem_append_right _ (by rw [List.map_append]; exact List.mem_append_left _ ha))
  have S2 := S.st.drop (List.sublist_append_right own rest)
  refine S.to ⟨S2.ok, S2.gb, S2.nd, S2.dj, S2.hn, ?_, fun n c' v hm => ?_, fun p hp => hs _ _ (fun q => nin _ q (.tail _ (List.mem_append_right _ (List.mem_map_of_mem hp)))) (S2.ob p hp), S2.ro,
    fun b o' e => hs _ _ (fun q => by rw [(S.st.hn b (inW b q)).1] at e; cases e) (S2.keep b o' e), fun b o' e => hs _ _ (fun q => by rw [(S.st.hn b (inW b q)).2] at e; cases e) (S2.sub b o' e), S2.base, S2.up, S2.ext, S2.ln, S2.gg⟩
  · obtain ⟨o', es, ep, ho, r⟩ := S2.ns
    exact ⟨o', es, ep, hs _ _ (fun q => nin _ q (.head _)) ho, r⟩
  · obtain ⟨o', ho, hd⟩ := S2.cl n c' v hm
    exact ⟨o', hs _ _ (fun q => nin _ q (.tail _ (List.mem_append_left _ (cells_mem hm)))) ho, hd⟩

theorem for_itr {target : Expr} {body : List Stmt} {it : Value} {n : Nat} {P : Nat → Vis → Value → Prop} {T : Nat → Vis → Led → Prop} {Q : Flow → Shared → Prop} {nmOk : Bool} (I : Itr prog w nmOk it n P T) (Inv : Nat → Vis → Loc → Led → Prop)
    (hh : A.handled = none) (tg : IsTgt target) (tn : nmOk = true ∨ ∃ es k p, target = .Tuple es k p) (S : Sn c g m (own ++ news) s) (t0 : T 0 g own) (h0 : Inv 0 g m news)
    (step : ∀ i v g0 g m own news s E', i < n → VSub g0 g → P i g v → T (i + 1) g own → Inv i g0 m news → Sn c g m (own ++ news) s →
      wpAny (model prog w) A (assign target c.env v) (fun _ s' => wpAny (model prog w) A (execs body c.env) (LoopQ c g own (Inv (i + 1)) Q) E' s') E' s)
    (fin : ∀ g m news s, Inv n g m news → Sn c g m news s → Q .next s) :
    codeAny (model prog w) A (.forLoop target it body [] c.env) (fun r s' => match r with | .ok f => Q f s' | .error e => cameBackBy (model prog w) A c.env E e s') s := by
  refine codeAny_forLoop_any (fun k s' => ∃ i g m own news, i ≤ n ∧ k = n + 1 - i ∧ Sn c g m (own ++ news) s' ∧ T i g own ∧ Inv i g m news) ?_ (n + 1) ⟨0, g, m, own, news, Nat.zero_le _, rfl, S, t0, h0⟩
  intro k s' hq
  refine hide1 k fun XX hXX => ?_
  obtain ⟨i, g, m, own, news, hi, rfl, S, ti, hI⟩ := hq
  refine hXX _ ?_
  clear hXX
  by_cases hlt : i < n
  · refine wpAny_mono (I.item (target := target) (K := fun v s₂ => ∃ g' own', VSub g g' ∧ P i g' v ∧ T (i + 1) g' own' ∧ Sn c g' m (own' ++ news) s₂) hh ti hlt S tg tn fun v g' own' s₂ a1 a2 a3 a4 a5 => ⟨g', own', a1, a2, a3, a5⟩) (fun r s₁ h => ?_) fun _ _ e => e
    obtain ⟨v, rfl, h⟩ := h
    refine wpAny_mono h (fun _ s₂ q => ?_) fun _ _ e => e
    refine hide0 fun XX hXX => ?_
    obtain ⟨g', own', a1, a2, a3, a5⟩ := q
    refine hXX ?_
    clear hXX
    refine wpAny_mono (step i v g g' m own' news s₂ _ hlt a1 a2 a3 hI a5) (fun _ s₃ q => wpAny_mono q (fun f s₄ q => ?_) fun _ _ e => e) fun _ _ e => e
    have nx : (∃ g'' m' news', VSub g' g'' ∧ Inv (i + 1) g'' m' news' ∧ Sn c g'' m' (own' ++ news') s₄) → ∃ m, m < n + 1 - i ∧ ∃ i g m_1 own news, i ≤ n ∧ m = n + 1 - i ∧ Sn c g m_1 (own ++ news) s₄ ∧ T i g own ∧ Inv i g m_1 news := by
      rintro ⟨g'', m'', news'', b1, b2, b3⟩
      exact ⟨n + 1 - (i + 1), by lia, i + 1, g'', m'', own', news'', hlt, rfl, b3, I.up a3 b1, b2⟩
    cases f with
    | next => exact nx q
    | cont => exact nx q
    | brk => exact q.elim
    | ret v => exact q
  · have e : i = n := by lia
    subst e
    exact I.done hh ti S fun s₁ S₁ => wpAny_execs_nil (fin _ _ _ _ hI S₁)

noncomputable abbrev liO (l : Addr) (i : Nat) (o : Obj) : Prop := o.cls = .type "list_iterator" ∧ o.data = .fields #[.ref l, .int i 0]
noncomputable abbrev tiO (l : Addr) (i : Nat) (o : Obj) : Prop := o.cls = .type "tuple_iterator" ∧ o.data = .fields #[.ref l, .int i 0]

theorem go_any {target : Expr} {l I : Addr} {i : Nat} {v : Value} {Q : Unit → Shared → Prop} (tg : IsTgt target) (hit : s.heap.IsListIter I l i) (h : Q () s) : wpAny (model prog w) A (letOwnedTupleGo target (.ref I) v) Q E s := by
  cases tg with
  | name => exact wpAny_pure h
  | tup =>
    cases v with
    | ref a => exact wpAny_letOwnedTupleGo_listiter hit h
    | _ => exact wpAny_pure h
theorem go_tup {es : List Expr} {k : Nat} {p : Pos} {l I a : Addr} {i : Nat} {Q : Unit → Shared → Prop} (hit : s.heap.IsTupleIter I l i) (h : Q () s) : wpAny (model prog w) A (letOwnedTupleGo (.Tuple es k p) (.ref I) (.ref a)) Q E s := by
  obtain ⟨o, ho, hc, hd⟩ := hit
  unfold letOwnedTupleGo
  refine wpAny_bind (wpAny_load ho ?_)
  rw [hc, hd]
  show wpAny _ A (if (["enumerate", "zip", "dict_itemiterator", "dict_reverseitemiterator", "odict_iterator", "itertools.zip_longest", "itertools.pairwise"].contains "tuple_iterator" &&
      (#[.ref l, .int i 0] : Array Value)[0]? == some (rawInt a)) = true then _ else _) Q E s
  rw [if_neg (by
    intro h
    rw [show (["enumerate", "zip", "dict_itemiterator", "dict_reverseitemiterator", "odict_iterator", "itertools.zip_longest", "itertools.pairwise"].contains "tuple_iterator") = false from by decide, Bool.false_and] at h
    cases h)]
  exact wpAny_pure h

theorem itr_list {l I : Addr} {vs : List Value} : Itr prog w true (.ref I) vs.length (fun i _ v => vs[i]? = some v) (fun i g own => ∃ o n, own = [(I, o)] ∧ liO l i o ∧ g l = some { cls := .type "list", data := .seq (List.toArray vs) n }) where
  up := fun ⟨o, n, a, b, e⟩ h => ⟨o, n, a, b, h _ _ e⟩
  item := by
    rintro A c g m _ rest s i target K E hh ⟨o, n, rfl, ⟨b1, b2⟩, e⟩ hi S tg _ h
    have hit : s.heap.IsListIter I l i := ⟨o, S.at .hd, b1, b2⟩
    have hl := S.st.isLst e
    refine wpAny_pyNext_list_item hit hl (x := vs[i]) (by simp [hi]) fun h' hit' hs' => ⟨_, rfl, go_any tg hit' ?_⟩
    obtain ⟨o', ho', b1', b2'⟩ := hit'
    exact h _ g [(I, o')] _ (VSub.refl g) (by simp [hi]) ⟨o', n, rfl, ⟨b1', b2'⟩, e⟩ rfl (S.chg (tk := s.toks) .hd hs' ho')
  done := by
    rintro A c g m _ rest s Q E hh ⟨o, n, rfl, ⟨b1, b2⟩, e⟩ S h
    exact wpAny_pyNext_list_end hh ⟨o, S.at .hd, b1, b2⟩ (S.st.isLst e) (by simp) fun h' he => h _ (S.gone (tk := s.toks) .hd fun b o' ne q => he b o' ne q)
  self := by
    rintro A c g m _ rest s i Q E ⟨o, n, rfl, ⟨b1, b2⟩, e⟩ S h
    exact wpAny_pyIter_listiter ⟨o, S.at .hd, b1, b2⟩ h
theorem itr_tup {l I : Addr} {vs : List Value} : Itr prog w true (.ref I) vs.length (fun i _ v => vs[i]? = some v) (fun i g own => ∃ o n, own = [(I, o)] ∧ tiO l i o ∧ g l = some { cls := .type "tuple", data := .seq (List.toArray vs) n }) where
  up := fun ⟨o, n, a, b, e⟩ h => ⟨o, n, a, b, h _ _ e⟩
  item := by
    rintro A c g m _ rest s i target K E hh ⟨o, n, rfl, ⟨b1, b2⟩, e⟩ hi S tg _ h
    have hit : s.heap.IsTupleIter I l i := ⟨o, S.at .hd, b1, b2⟩
    have hl := S.st.isTup e
    refine wpAny_pyNext_tuple_item hit hl (x := vs[i]) (by simp [hi]) fun h' hit' hs' => ⟨_, rfl, ?_⟩
    obtain ⟨o', ho', b1', b2'⟩ := id hit'
    have fin := h vs[i] g [(I, o')] _ (VSub.refl g) (by simp [hi]) ⟨o', n, rfl, ⟨b1', b2'⟩, e⟩ rfl (S.chg (tk := s.toks) .hd hs' ho')
    cases tg with
    | name => exact wpAny_pure fin
    | tup =>
      generalize vs[i] = v at fin ⊢
      cases v with
      | ref a => exact go_tup hit' fin
      | _ => exact wpAny_pure fin
  done := by
    rintro A c g m _ rest s Q E hh ⟨o, n, rfl, ⟨b1, b2⟩, e⟩ S h
    exact wpAny_pyNext_tuple_end hh ⟨o, S.at .hd, b1, b2⟩ (S.st.isTup e) (by simp) fun h' he => h _ (S.gone (tk := s.toks) .hd fun b o' ne q => he b o' ne q)
  self := by
    rintro A c g m _ rest s i Q E ⟨o, n, rfl, ⟨b1, b2⟩, e⟩ S h
    exact wpAny_pyIter_tupleiter ⟨o, S.at .hd, b1, b2⟩ h
/-- range(n) -/
theorem itr_range {I : Addr} {n : Nat} : Itr prog w true (.ref I) n (fun i _ v => ∃ t, v = .int i t) (fun i _ own => own = [(I, { cls := .type "range_iterator", dict := none, data := .fields #[rawInt i, rawInt ((n : Int) - (i : Nat)), rawInt 1], slots := #[] })]) where
  up := fun a _ => a
  item := by
    rintro A c g m _ rest s i target K E hh rfl hi S tg _ h
    have hit : IsRangeIter s.heap I i ((n : Int) - (i : Nat)) 1 := S.at .hd
    refine wpAny_pyNext_range_item hit (by lia) fun h' hit' hs' => ⟨_, rfl, ?_⟩
    have e2 : ((i + 1 : Nat) : Int) = (i : Int) + 1 := rfl
    have e3 : (n : Int) - ((i + 1 : Nat) : Int) = (n : Int) - (i : Int) - 1 := by lia
    have fin := h (.int i s.toks) g _ _ (VSub.refl g) ⟨_, rfl⟩ rfl rfl (by rw [e2, show (n : Int) - ((i : Int) + 1) = (n : Int) - (i : Int) - 1 by lia]; exact S.chg (tk := s.toks + 1) .hd hs' hit')
    cases tg with
    | name => exact wpAny_pure fin
    | tup => exact wpAny_pure fin
  done := by
    rintro A c g m _ rest s Q E hh rfl S h
    have hit : IsRangeIter s.heap I n ((n : Int) - (n : Nat)) 1 := S.at .hd
    exact wpAny_pyNext_range_end hh hit (by lia) fun h' he => h _ (S.gone (tk := s.toks) .hd fun b o' ne q => he b o' ne q)
  self := by
    rintro A c g m _ rest s i Q E rfl S h
    exact wpAny_pyIter_rangeiter (S.at .hd) h

theorem iter_list {l : Addr} {vs : List Value} {n : Nat} {Q : Value → Shared → Prop} (S : Sn c g m news s) (hg : g l = some { cls := .type "list", data := .seq (List.toArray vs) n })
    (h : ∀ I o s', Sn c g m ([(I, o)] ++ news) s' → (∃ o' k, [(I, o)] = [(I, o')] ∧ liO l 0 o' ∧ g l = some { cls := .type "list", data := .seq (List.toArray vs) k }) → Q (.ref I) s') : wpAny (model prog w) A (pyIter (.ref l)) Q E s :=
  wpAny_pyIter_list (S.st.isLst hg) (h _ _ _ (S.push (tk := s.toks) rfl) ⟨_, _, rfl, ⟨rfl, rfl⟩, hg⟩)
theorem iter_tup {l : Addr} {vs : List Value} {n : Nat} {Q : Value → Shared → Prop} (S : Sn c g m news s) (hg : g l = some { cls := .type "tuple", data := .seq (List.toArray vs) n })
    (h : ∀ I o s', Sn c g m ([(I, o)] ++ news) s' → (∃ o' k, [(I, o)] = [(I, o')] ∧ tiO l 0 o' ∧ g l = some { cls := .type "tuple", data := .seq (List.toArray vs) k }) → Q (.ref I) s') : wpAny (model prog w) A (pyIter (.ref l)) Q E s :=
  wpAny_pyIter_tuple (S.st.isTup hg) (h _ _ _ (S.push (tk := s.toks) rfl) ⟨_, _, rfl, ⟨rfl, rfl⟩, hg⟩)
noncomputable abbrev rangeO (n : Int) (t u v : Tok) : Obj := { cls := .type "range", dict := none, data := .fields #[.int 0 t, .int n u, .int 1 v], slots := #[] }
theorem call_range {k : Int} {t : Tok} {Q : Value → Shared → Prop} (S : Sn c g m news s) (h : ∀ a s' t u v, Sn c g m ((a, rangeO k t u v) :: news) s' → Q (.ref a) s') : wpAny (model prog w) A (call (.type "range") [.int k t]) Q E s :=
  call_range_1 (h _ _ _ _ _ (S.push rfl))
theorem iter_range {a : Addr} {k : Int} {t u v : Tok} {Q : Value → Shared → Prop} (S : Sn c g m news s) (hm : LDel a (rangeO k t u v) news news') (hk0 : 0 ≤ k) (hk : k < 2 ^ 62)
    (h : ∀ I o s', Sn c g m ([(I, o)] ++ news') s' → [(I, o)] = [(I, ({ cls := .type "range_iterator", dict := none, data := .fields #[rawInt (0 : Nat), rawInt ((k.toNat : Int) - (0 : Nat)), rawInt 1], slots := #[] } : Obj))] → Q (.ref I) s') : wpAny (model prog w) A (pyIter (.ref a)) Q E s := by
  have ha : s.heap.get? a = some (rangeO k t u v) := (S.perm hm.perm).at .hd
  have sm : Builtin.Range.small 0 k 1 = true := small_one (by decide) (by decide) (by lia) hk
  refine wpAny_pyIter_range ha sm ?_
  have e : Builtin.Range.rangeSize 0 k 1 = ((k.toNat : Int) - (0 : Nat)) := by rw [rangeSize_one]; split <;> lia
  rw [e]
  exact h _ _ _ ((S.drop (news' := news') (by
    clear S ha h
    induction hm with
    | hd => exact List.sublist_cons_self _ _
    | tl _ ih => exact List.Sublist.cons_cons _ ih)).push (tk := s.toks) rfl) rfl

noncomputable abbrev zipO (TI TO : Addr) : Obj := { cls := .type "zip", dict := none, data := .fields #[.none, .bool false, .bool false, .ref TI, .ref TO], slots := #[] }
theorem zip_apart {z TI TO i1 i2 l1 l2 : Addr} {oz oT o1 o2 oI oa ob : Obj} (S : Sn c g m ([(z, oz), (TO, oT), (i1, o1), (i2, o2)] ++ rest) s) (p : g TI = some oI) (e1 : g l1 = some oa) (e2 : g l2 = some ob) : ZipApart z TI TO i1 i2 l1 l2 := by
  have gn : ∀ {a o}, g a = some o → a ∉ [z, TO, i1, i2] := fun {a o} e q => by
    have : g a = none := S.st.none (by rw [List.map_append]; exact List.mem_append_left _ q)
    rw [e] at this; cases this
  have dj := (List.nodup_append.mp (List.nodup_cons.mp S.st.dj).2).2.1
  rw [List.map_append] at dj
  have nd : [z, TO, i1, i2].Nodup := (List.nodup_append.mp dj).1
  simp only [List.nodup_cons, List.mem_cons, List.not_mem_nil, or_false, not_or] at nd
  have a1 := gn p; have a2 := gn e1; have a3 := gn e2
  simp only [List.mem_cons, List.not_mem_nil, or_false, not_or] at a1 a2 a3
  obtain ⟨⟨n1, n2, n3⟩, ⟨n4, n5⟩, n6, _⟩ := nd
  exact ⟨a1.1, Ne.symm n1, Ne.symm n2, Ne.symm n3, a1.2.1, a1.2.2.1, a1.2.2.2, n4, n5, n6, a2.1, a2.2.1, a2.2.2.1, a2.2.2.2, a3.1, a3.2.1, a3.2.2.1, a3.2.2.2⟩
/-- zip of two lists -/
theorem itr_zip {z TI TO i1 i2 l1 l2 : Addr} {xs ys : List Value} : Itr prog w false (.ref z) (min xs.length ys.length) (fun i g v => ∃ x y a, xs[i]? = some x ∧ ys[i]? = some y ∧ v = .ref a ∧ g a = some (tupO [x, y]))
    (fun i g own => ∃ o1 o2 a b n1 n2, own = [(z, zipO TI TO), (TO, tupO [a, b]), (i1, o1), (i2, o2)] ∧ liO l1 i o1 ∧ liO l2 i o2 ∧ g TI = some (tupO [.ref i1, .ref i2]) ∧ g l1 = some { cls := .type "list", data := .seq (List.toArray xs) n1 } ∧ g l2 = some { cls := .type "list", data := .seq (List.toArray ys) n2 }) where
  up := by
    rintro i g g' own ⟨o1, o2, a, b, n1, n2, e, b1, b2, p, e1, e2⟩ h
    exact ⟨o1, o2, a, b, n1, n2, e, b1, b2, h _ _ p, h _ _ e1, h _ _ e2⟩
  item := by
    intro A c g m ow rest s i target K E hh ho hi S tg tn h
    refine hide0 fun XX hXX => ?_
    obtain ⟨o1, o2, a, b, n1, n2, rfl, b1, b2, p, e1, e2⟩ := ho
    refine hXX ?_
    clear hXX
    obtain ⟨es, k, pp, rfl⟩ : ∃ es k p, target = .Tuple es k p := by
      rcases tn with q | q
      · cases q
      · exact q
    have D := zip_apart S p e1 e2
    have hz : IsZip s.heap z TI TO .none := S.at .hd
    have hTI : IsPair s.heap TI (.ref i1) (.ref i2) := S.sub _ _ p
    have hTO : IsPair s.heap TO a b := S.at (.tl .hd)
    have hi1 : s.heap.IsListIter i1 l1 i := ⟨o1, S.at (.tl (.tl .hd)), b1.1, b1.2⟩
    have hi2 : s.heap.IsListIter i2 l2 i := ⟨o2, S.at (.tl (.tl (.tl .hd))), b2.1, b2.2⟩
    have hix : i < xs.length := Nat.lt_of_lt_of_le hi (Nat.min_le_left ..)
    have hiy : i < ys.length := Nat.lt_of_lt_of_le hi (Nat.min_le_right ..)
    refine wpAny_pyNext_zip_item D hz hTI hTO hi1 hi2 (S.st.isLst e1) (S.st.isLst e2) (x := xs[i]) (y := ys[i]) (by simp [hix]) (by simp [hiy]) fun h' a1 a2 a3 a4 a5 a6 hk => ⟨_, rfl, ?_⟩
    refine wpAny_letOwnedTupleGo_zip a1 fun h'' hz'' hs'' => ?_
    obtain ⟨o1', w1, w2, w3⟩ := a3
    obtain ⟨o2', w4, w5, w6⟩ := a4
    have lt : ∀ {c o}, s.heap.get? c = some o → s.heap.objs.size ≠ c := fun e => Nat.ne_of_gt (Heap.lt_size e)
    have hL : c.env.locals ∉ [z, TO, i1, i2] := fun q => by
      have := (List.nodup_cons.mp S.st.dj).1
      exact this (List.mem_append_right _ (by rw [List.map_append]; exact List.mem_append_left _ q))
    have kp : ∀ b o, s.heap.get? b = some o → b ∉ [z, TO, i1, i2] → h''.get? b = some o := fun b o e n => by
      simp only [List.mem_cons, List.not_mem_nil, or_false, not_or] at n
      exact hs''.extBut b o n.1 (hk b o n.1 n.2.1 n.2.2.1 n.2.2.2 e)
    have S1 : Sn c g m ([(z, zipO TI TO), (TO, tupO [xs[i], ys[i]]), (i1, o1'), (i2, o2')] ++ rest) { s with heap := h'', toks := s.toks } := by
      refine S.to (St.mut S.st (fun b o e _ n => kp b o e n) ?_ ?_ rfl)
      · obtain ⟨oL, es, ep, ho, r⟩ := S.st.ns
        exact ⟨oL, es, ep, kp _ _ ho hL, r⟩
      · intro q hq
        simp only [List.mem_cons, List.not_mem_nil, or_false] at hq
        rcases hq with rfl | rfl | rfl | rfl
        · exact hz''
        · exact hs''.extBut _ _ D.TOz a2
        · exact hs''.extBut _ _ D.i1z w1
        · exact hs''.extBut _ _ D.i2z w4
    have gT : h''.get? s.heap.objs.size = some (tupO [xs[i], ys[i]]) := hs''.extBut _ _ (lt hz) a5
    have S2 : Sn c g m ((s.heap.objs.size, tupO [xs[i], ys[i]]) :: ([(z, zipO TI TO), (TO, tupO [xs[i], ys[i]]), (i1, o1'), (i2, o2')] ++ rest)) { s with heap := h'', toks := s.toks } := by
      refine S1.to (S1.st.add gT (fun hm => absurd (S.st.lt _ hm) (Nat.lt_irrefl _)) ?_ ?_)
      · cases q : c.h₀.get? s.heap.objs.size with
        | none => exact q
        | some o' => exact absurd (Heap.lt_size (S.st.keep _ _ q)) (Nat.lt_irrefl _)
      · cases q : g s.heap.objs.size with
        | none => rfl
        | some o' => exact absurd (Heap.lt_size (S.st.sub _ _ q)) (Nat.lt_irrefl _)
    obtain ⟨g', hv, hg, S3⟩ := S2.lock .hd S.sz
    exact h _ g' _ _ hv ⟨_, _, _, by simp [hix], by simp [hiy], rfl, hg⟩ ⟨o1', o2', xs[i], ys[i], n1, n2, rfl, ⟨w2, w3⟩, ⟨w5, w6⟩, hv _ _ p, hv _ _ e1, hv _ _ e2⟩ rfl S3
  done := by
    rintro A c g m _ rest s Q E hh ⟨o1, o2, a, b, n1, n2, rfl, b1, b2, p, e1, e2⟩ S h
    have D := zip_apart S p e1 e2
    have hend : xs.toArray[min xs.length ys.length]? = none ∨ ys.toArray[min xs.length ys.length]? = none := by
      by_cases q : xs.length ≤ ys.length
      · left; simp; lia
      · right; simp; lia
    refine wpAny_pyNext_zip_end hh D (S.at .hd) (S.sub _ _ p) (S.at (.tl .hd)) ⟨o1, S.at (.tl (.tl .hd)), b1.1, b1.2⟩ ⟨o2, S.at (.tl (.tl (.tl .hd))), b2.1, b2.2⟩ (S.st.isLst e1) (S.st.isLst e2) hend fun h' hk => ?_
    have S' := S.st
    exact h _ (S.goneW (tk := s.toks) fun b o n e => by
      simp only [List.map_cons, List.map_nil, List.mem_cons, List.not_mem_nil, or_false, not_or] at n
      exact hk b o n.1 n.2.1 n.2.2.1 n.2.2.2 e)
  self := by
    rintro A c g m _ rest s i Q E ⟨o1, o2, a, b, n1, n2, rfl, b1, b2, p, e1, e2⟩ S h
    exact wpAny_pyIter_zip (S.at .hd) h

theorem call_zip {l1 l2 : Addr} {xs ys : List Value} {n1 n2 : Nat} {Q : Value → Shared → Prop} (S : Sn c g m news s) (e1 : g l1 = some { cls := .type "list", data := .seq (List.toArray xs) n1 }) (e2 : g l2 = some { cls := .type "list", data := .seq (List.toArray ys) n2 })
    (h : ∀ z own g' s', VSub g g' → Sn c g' m (own ++ news) s' → own.length = 4 → (∃ TI TO i1 i2 o1 o2 a b n1 n2, own = [(z, zipO TI TO), (TO, tupO [a, b]), (i1, o1), (i2, o2)] ∧ liO l1 0 o1 ∧ liO l2 0 o2 ∧ g' TI = some (tupO [.ref i1, .ref i2]) ∧ g' l1 = some { cls := .type "list", data := .seq (List.toArray xs) n1 } ∧ g' l2 = some { cls := .type "list", data := .seq (List.toArray ys) n2 }) → Q (.ref z) s') :
    wpAny (model prog w) A (call (.type "zip") [.ref l1, .ref l2]) Q E s := by
  refine call_zip_2 (S.st.isLst e1) (S.st.isLst e2) fun h' a1 a2 a3 a4 a5 a6 hk => ?_
  obtain ⟨o1, w1, w2, w3⟩ := a4
  obtain ⟨o2, w4, w5, w6⟩ := a5
  have S0 : Sn c g m news { s with heap := h', toks := s.toks } := S.grow hk
  have add : ∀ {a : Addr} {o : Obj} {nw : Led}, Sn c g m nw { s with heap := h', toks := s.toks } → h'.get? a = some o → s.heap.objs.size ≤ a → a ∉ owns c.env.locals m nw → Sn c g m ((a, o) :: nw) { s with heap := h', toks := s.toks } := by
    intro a o nw X ho ha hn
    refine X.to (X.st.add ho hn ?_ ?_)
    · cases q : c.h₀.get? a with
      | none => exact q
      | some o' => exact absurd (Heap.lt_size (S.st.keep _ _ q)) (Nat.not_lt.mpr ha)
    · cases q : g a with
      | none => rfl
      | some o' => exact absurd (Heap.lt_size (S.st.sub _ _ q)) (Nat.not_lt.mpr ha)
  have lo : ∀ a ∈ owns c.env.locals m news, a < s.heap.objs.size := S.st.lt
  have mem : ∀ {nw : Led} {a : Addr}, a ∈ owns c.env.locals m nw ↔ a = c.env.locals ∨ a ∈ cellsOf m ∨ a ∈ nw.map (·.1) := by intro nw a; simp [owns]
  have base : ∀ a, s.heap.objs.size ≤ a → a ∉ owns c.env.locals m news := fun a ha q => absurd (lo a q) (Nat.not_lt.mpr ha)
  have S1 := add S0 w4 (Nat.le_add_right _ 1) (base _ (Nat.le_add_right _ 1))
  have S2 := add S1 w1 (Nat.le_refl _) (by
    rw [mem]; rintro (q | q | q)
    · exact base _ (Nat.le_refl _) (mem.mpr (.inl q))
    · exact base _ (Nat.le_refl _) (mem.mpr (.inr (.inl q)))
    · rcases List.mem_cons.mp q with q | q
      · have q' : @Eq Nat _ _ := q; simp only at q'; lia
      · exact base _ (Nat.le_refl _) (mem.mpr (.inr (.inr q))))
  have S3 := add S2 a3 (Nat.le_add_right _ 3) (by
    rw [mem]; rintro (q | q | q)
    · exact base _ (Nat.le_add_right _ 3) (mem.mpr (.inl q))
    · exact base _ (Nat.le_add_right _ 3) (mem.mpr (.inr (.inl q)))
    · rcases List.mem_cons.mp q with q | q
      · have q' : @Eq Nat _ _ := q; simp only at q'; lia
      · rcases List.mem_cons.mp q with q | q
        · have q' : @Eq Nat _ _ := q; simp only at q'; lia
        · exact base _ (Nat.le_add_right _ 3) (mem.mpr (.inr (.inr q))))
  have S4 := add S3 a1 (Nat.le_add_right _ 4) (by
    rw [mem]; rintro (q | q | q)
    · exact base _ (Nat.le_add_right _ 4) (mem.mpr (.inl q))
    · exact base _ (Nat.le_add_right _ 4) (mem.mpr (.inr (.inl q)))
    · rcases List.mem_cons.mp q with q | q
      · have q' : @Eq Nat _ _ := q; simp only at q'; lia
      · rcases List.mem_cons.mp q with q | q
        · have q' : @Eq Nat _ _ := q; simp only at q'; lia
        · rcases List.mem_cons.mp q with q | q
          · have q' : @Eq Nat _ _ := q; simp only at q'; lia
          · exact base _ (Nat.le_add_right _ 4) (mem.mpr (.inr (.inr q))))
  have S5 := add S4 a2 (Nat.le_add_right _ 2) (by
    rw [mem]; rintro (q | q | q)
    · exact base _ (Nat.le_add_right _ 2) (mem.mpr (.inl q))
    · exact base _ (Nat.le_add_right _ 2) (mem.mpr (.inr (.inl q)))
    · rcases List.mem_cons.mp q with q | q
      · have q' : @Eq Nat _ _ := q; simp only at q'; lia
      · rcases List.mem_cons.mp q with q | q
        · have q' : @Eq Nat _ _ := q; simp only at q'; lia
        · rcases List.mem_cons.mp q with q | q
          · have q' : @Eq Nat _ _ := q; simp only at q'; lia
          · rcases List.mem_cons.mp q with q | q
            · have q' : @Eq Nat _ _ := q; simp only at q'; lia
            · exact base _ (Nat.le_add_right _ 2) (mem.mpr (.inr (.inr q))))
  obtain ⟨g', hv, hg, S6⟩ := S5.lock .hd (Nat.le_trans S.sz (Nat.le_add_right _ 2))
  exact h _ [_, _, _, _] g' _ hv S6 rfl ⟨_, _, _, _, _, _, _, _, n1, n2, rfl, ⟨w2, w3⟩, ⟨w5, w6⟩, hg, hv _ _ e1, hv _ _ e2⟩
end
end Mine

-- MComp
namespace Mine

theorem codeAny_compLoop_go {prog : Program} {w : World} {A : Around} {R : Result → Shared → Prop} {s : Shared} {elt target iter : Expr} {ifs : List Expr} {scope : Scope} {pos : Pos} {it acc : Value} {env : Env} (I : Nat → Shared → Prop)
    (turn : ∀ n s, I n s → wpAny (model prog w) A (pyNext it) (fun r s₁ => match r with
      | none => R (.ok .next) s₁
      | some v => wpAny (model prog w) A (letOwnedTupleGo target it v) (fun _ s₁' => wpAny (model prog w) A (assign target env v) (fun _ s₂ =>
          wpAny (model prog w) A (forIn ifs true fun c r => if r = true then do let ok ← isTrue c env (eval c env); pure (ForInStep.yield ok) else pure (ForInStep.yield r)) (fun ok s₃ =>
            if ok = true then wpAny (model prog w) A (eval elt env) (fun x s₄ =>
              wpAny (model prog w) A (call (.builtin "list.append") [acc, x]) (fun _ s₅ => ∃ m, m < n ∧ I m s₅) (notedBy (model prog w) A env fun e s' => R (.error e) s') s₄) (notedBy (model prog w) A env fun e s' => R (.error e) s') s₃
            else ∃ m, m < n ∧ I m s₃) (notedBy (model prog w) A env fun e s' => R (.error e) s') s₂) (notedBy (model prog w) A env fun e s' => R (.error e) s') s₁') (notedBy (model prog w) A env fun e s' => R (.error e) s') s₁) (notedBy (model prog w) A env fun e s' => R (.error e) s') s)
    (n : Nat) (h : I n s) : codeAny (model prog w) A (.compLoop (.ListComp elt [⟨target, iter, ifs, 0⟩] scope pos) 0 it acc env) R s := by
  refine codeAny_loop rfl I (fun n s hI => ?_) n h
  show wpAny _ A ((compTurn (.ListComp elt [⟨target, iter, ifs, 0⟩] scope pos) 0 it acc env).onRaise (fun x => do noteFrame x env; theTreesLotGoes x)) _ _ s
  refine wpAny_noted ?_
  rw [compTurn_list]
  refine wpAny_bind (wpAny_standAt (wpAny_bind (wpAny_mono (turn n s hI) (fun r s₁ h₁ => ?_) fun _ _ h' => h')))
  cases r with
  | none => exact wpAny_pure h₁
  | some v =>
    refine wpAny_bind (wpAny_mono h₁ (fun _ s₁' h₁' => ?_) fun _ _ h' => h')
    refine wpAny_bind (wpAny_mono h₁' (fun _ s₂ h₂ => wpAny_bind (wpAny_mono h₂ (fun ok s₃ h₃ => ?_) fun _ _ h' => h')) fun _ _ h' => h')
    cases ok with
    | false => exact wpAny_pure ⟨rfl, h₃⟩
    | true =>
      exact wpAny_bind (wpAny_bind (wpAny_mono h₃ (fun x s₄ h₄ => wpAny_bind (wpAny_mono h₄ (fun _ s₅ h₅ => wpAny_pure (wpAny_pure ⟨rfl, h₅⟩)) fun _ _ h' => h')) fun _ _ h' => h'))

inductive SlotsOk (sc : Scope) (cl : List (Str × Addr)) (m : Loc) : Loc → Prop
  | nil : SlotsOk sc cl m []
  | loc {n r} : (n == ("__debug__" : Str)) = false → sc.names.lookup n = some .local → SlotsOk sc cl m r → SlotsOk sc cl m ((n, .loc none) :: r)
  | ro {n n' a v r} : (n == ("__debug__" : Str)) = false → sc.names.lookup n = some .cell → cl.lookup n = some a → (n', Slot.cell a (some v)) ∈ m → SlotsOk sc cl m r → SlotsOk sc cl m ((n, .ro a v) :: r)
theorem SlotsOk.all {sc : Scope} {cl : List (Str × Addr)} {m mc : Loc} (h : SlotsOk sc cl m mc) : (∀ p ∈ mc, (p.1 == ("__debug__" : Str)) = false ∧ ((p.2 = .loc none ∧ sc.names.lookup p.1 = some .local) ∨ ∃ a v n', p.2 = .ro a v ∧ sc.names.lookup p.1 = some .cell ∧ cl.lookup p.1 = some a ∧ (n', Slot.cell a (some v)) ∈ m)) ∧ cellsOf mc = [] ∧ locOf mc = fun _ => none := by
  induction h with
  | nil => exact ⟨fun p hp => (by cases hp), rfl, rfl⟩
  | @loc n r h1 h2 _ ih =>
    refine ⟨fun p hp => ?_, ih.2.1, ?_⟩
    · rcases List.mem_cons.mp hp with rfl | hp
      · exact ⟨h1, .inl ⟨rfl, h2⟩⟩
      · exact ih.1 p hp
    · funext y; simp [locOf, ih.2.2]
  | @ro n n' a v r h1 h2 h3 h4 _ ih =>
    refine ⟨fun p hp => ?_, ih.2.1, ?_⟩
    · rcases List.mem_cons.mp hp with rfl | hp
      · exact ⟨h1, .inr ⟨a, v, n', rfl, h2, h3, h4⟩⟩
      · exact ih.1 p hp
    · funext y; simp [locOf, ih.2.2]
noncomputable def compOk (scope sc : Scope) (gls : List (Str × Value)) (ns : List Str) : Bool :=
  scope.kind == .function && scope.names.all (fun x => !(x.2 == .local) || scope.names.lookup x.1 == some .local) && scope.names.all (fun x => !(x.2 == .cell)) &&
    gls.all (fun p => sc.names.lookup p.1 == some .globalImplicit && !(p.1 == ("__debug__" : Str))) && decide ns.Nodup

section
variable {prog : Program} {w : World} {A : Around} {E : Value → Shared → Prop} {s : Shared}
variable {c : Cx} {g : Vis} {m m' : Loc} {news news' own rest oi : Led} {d : Nat}

theorem perm_to {X n r oi : Led} (hp : Pick X n r) (hr : r = oi) : n.Perm (oi ++ X) := by
  subst hr
  exact hp.perm.trans List.perm_append_comm
/-- own objects go or change, what is seen grows -/
theorem St.out2 {G0 : Heap} {gls : List (Str × Value)} {x : Fx} {g g' : Vis} {m : Loc} {gone own own' rest : Led} {h h' : Heap} (S : St G0 gls x g m (gone ++ (own ++ rest)) h)
    (hk : ∀ b o, h.get? b = some o → b ∉ gone.map (·.1) → b ∉ own.map (·.1) → h'.get? b = some o) (hob : ∀ p ∈ own', h'.get? p.1 = some p.2) (hw : own'.map (·.1) = own.map (·.1))
    (hv : VSub g g') (hx : ∀ a o, g' a = some o → g a = some o ∨ h.objs.size ≤ a) (hsub : Sub g' h') : St G0 gls x g' m (own' ++ rest) h' := by
  have S1 := S.drop (List.sublist_append_right gone (own ++ rest))
  have eo : owns x.env.locals m (own' ++ rest) = owns x.env.locals m (own ++ rest) := by
    unfold owns; rw [List.map_append, List.map_append, hw]
  have inG : ∀ a, a ∈ gone.map (·.1) → a ∈ owns x.env.locals m (gone ++ (own ++ rest)) := fun a ha => .tail _ (List.mem_append_right _ (by rw [List.map_append]; exact List.mem_append_left _ ha))
  have inW : ∀ a, a ∈ own.map (·.1) → a ∈ owns x.env.locals m (own ++ rest) := fun a ha => .tail _ (List.mem_append_right _ (by rw [List.map_append]; exact List.mem_append_left _ ha))
  have dj0 := S.dj
  have nG : ∀ a ∈ gone.map (·.1), a ∉ owns x.env.locals m (own ++ rest) := fun a ha hm => by
    have dj2 := List.nodup_append.mp (List.nodup_cons.mp dj0).2
    rcases List.mem_cons.mp hm with q | q
    · exact (List.nodup_cons.mp dj0).1 (q ▸ List.mem_append_right _ (by rw [List.map_append]; exact List.mem_append_left _ ha))
    · rcases List.mem_append.mp q with q | q
      · exact dj2.2.2 a q a (by rw [List.map_append]; exact List.mem_append_left _ ha) rfl
      · have d3 := dj2.2.1
        rw [List.map_append] at d3
        exact (List.nodup_append.mp d3).2.2 a ha a q rfl
  have kp : ∀ b o, x.h₀.get? b = some o → h'.get? b = some o := fun b o e => hk b o (S1.keep b o e) (fun q => by rw [(S.hn b (inG b q)).1] at e; cases e) fun q => by rw [(S1.hn b (inW b q)).1] at e; cases e
  have dj2 := List.nodup_append.mp (List.nodup_cons.mp S1.dj).2
  have nL : x.env.locals ∉ own.map (·.1) := fun q => (List.nodup_cons.mp S1.dj).1 (List.mem_append_right _ (by rw [List.map_append]; exact List.mem_append_left _ q))
  refine ⟨S1.ok, S1.gb, S1.nd, eo ▸ S1.dj, fun a ha => ?_, ?_, fun n c v hm => ?_, fun p hp => ?_, S1.ro, kp, hsub, S1.base, S1.up.trans hv, fun a o e => ?_, S1.ln, S1.gg⟩
  · rw [eo] at ha
    refine ⟨(S1.hn a ha).1, ?_⟩
    cases q : g' a with
    | none => rfl
    | some o =>
      rcases hx a o q with q | q
      · rw [(S1.hn a ha).2] at q; cases q
      · exact absurd (S1.lt a ha) (Nat.not_lt.mpr q)
  · obtain ⟨o, es, ep, ho, r⟩ := S1.ns
    exact ⟨o, es, ep, hk _ _ ho (fun q => nG _ q (.head _)) nL, r⟩
  · obtain ⟨o, ho, hd⟩ := S1.cl n c v hm
    refine ⟨o, hk _ _ ho (fun q => nG _ q (.tail _ (List.mem_append_left _ (cells_mem hm)))) fun q => ?_, hd⟩
    exact dj2.2.2 c (cells_mem hm) c (by rw [List.map_append]; exact List.mem_append_left _ q) rfl
  · rcases List.mem_append.mp hp with q | q
    · exact hob p q
    · refine hk _ _ (S1.ob p (List.mem_append_right _ q)) (fun z => nG _ z (.tail _ (List.mem_append_right _ (by rw [List.map_append]; exact List.mem_append_right _ (List.mem_map_of_mem q))))) fun z => ?_
      have d3 := dj2.2.1
      rw [List.map_append] at d3
      exact (List.nodup_append.mp d3).2.2 _ z _ (List.mem_map_of_mem q) rfl
  · rcases hx a o e with q | q
    · exact S1.ext a o q
    · exact .inr (Nat.le_trans S1.sz q)

/-- the comprehension once its iterator stands -/
noncomputable def CompGo (prog : Program) (w : World) (A : Around) (E : Value → Shared → Prop) (c : Cx) (Q : Value → Shared → Prop) (use : Option (Value → Sem Unit)) (elt target iter : Expr) (ifs : List Expr) (scope : Scope) (pos : Pos) (cl : List (Str × Addr)) (it : Value) (s : Shared) : Prop :=
  wpAny (model prog w) A (newList []) (fun acc s₃ => wpAny (model prog w) A (newFunctionEnv scope c.env.globals cl [] c.env.qual none .none (some c.env)) (fun cenv s₄ =>
    codeAny (model prog w) A (.compStart (.ListComp elt [⟨target, iter, ifs, 0⟩] scope pos) 0 it acc { cenv with scope := relabel scope c.env }) (compPost (model prog w) A E use Q acc cenv.locals) s₄) E s₃) E s

theorem e_comp {elt target iter : Expr} {ifs : List Expr} {scope : Scope} {pos : Pos} {cl : List (Str × Addr)} {Q : Value → Shared → Prop} (hclos : closureFor scope c.env = pure cl) (hkind : scope.kind = .function)
    (hnames : (scope.names.all fun x => !(x.2 == .local) || scope.names.lookup x.1 == some .local) = true)
    (h : wpAny (model prog w) A (eval iter c.env) (fun xv s₁ => wpAny (model prog w) A (pyIter xv) (fun it s₂ => CompGo prog w A E c Q none elt target iter ifs scope pos cl it s₂) E s₁) E s)
    (hs : ∀ x, foldedSetIterable iter c.env x = pure x) :
    wpAny (model prog w) A (eval (.ListComp elt [⟨target, iter, ifs, 0⟩] scope pos) c.env) Q E s := by
  rw [eval_ListComp]
  refine wpAny_comprehension_free (use := none) rfl hs hclos hkind (fun x hx hl => ?_) h
  have := List.all_eq_true.mp hnames x hx
  simpa [hl] using this

theorem comp_next {c' : Cx} {g g' : Vis} {mc' : Loc} {own'' : Led} {W : List Addr} {Mc : Loc → Prop} {J : Vis → Led → Prop} {N : Led → Led} {s₄ : Shared} (h : VSub g g') (h2 : Mc mc') (h3 : J g' own'') (h4 : own''.map (·.1) = W) (h5 : Sn c' g' mc' (N own'') s₄) :
    ∃ g' mc' own'', VSub g g' ∧ Mc mc' ∧ J g' own'' ∧ own''.map (·.1) = W ∧ Sn c' g' mc' (N own'') s₄ := ⟨g', mc', own'', h, h2, h3, h4, h5⟩
theorem comp_itr0 {use : Option (Value → Sem Unit)} {elt target iter : Expr} {ifs : List Expr} {scope : Scope} {e0 : Env} {pos : Pos} {cl : List (Str × Addr)} {Q : Value → Shared → Prop} {nmOk : Bool} {it : Value} {n : Nat} {P : Nat → Vis → Value → Prop} {T : Nat → Vis → Led → Prop} {gls : List (Str × Value)} {mc0 : Loc}
    (I : Itr prog w nmOk it n P T) (Mc : Loc → Prop) (Inv : Nat → Vis → Led → List Value → Prop) (he0 : c.env = e0) (hok : compOk scope (relabel scope e0) gls (names mc0) = true) (gb : Glb c.G0 gls) (slots : SlotsOk (relabel scope e0) cl m mc0) (hm0 : Mc mc0)
    (hh : A.handled = none) (tg : IsTgt target) (tn : nmOk = true ∨ ∃ es k p, target = .Tuple es k p)
    (S0 : Sn c g m (oi ++ news) s) (hp : Pick own news rest) (t0 : T 0 g oi) (h0 : Inv 0 g own [])
    (len : ∀ i g own vs, Inv i g own vs → vs.length < sizeLine)
    (step : ∀ c' C D i v g0 g mc oi own' vs k s E', c'.env = compEnvC scope cl C c.env → c'.gls = gls → c'.G0 = c.G0 → i < n → VSub g0 g → P i g v → T (i + 1) g oi → Inv i g0 own' vs → own'.map (·.1) = own.map (·.1) → Mc mc →
      Sn c' g mc (oi ++ ([(D, lstO vs k)] ++ own')) s →
      wpAny (model prog w) A (assign target c'.env v) (fun _ s₂ => wpAny (model prog w) A (forIn ifs true fun c r => if r = true then do let ok ← isTrue c c'.env (eval c c'.env); pure (ForInStep.yield ok) else pure (ForInStep.yield r)) (fun ok s₃ =>
        if ok = true then wpAny (model prog w) A (eval elt c'.env) (fun y s₄ => ∃ g' mc' own'', VSub g g' ∧ Mc mc' ∧ Inv (i + 1) g' own'' (vs ++ [y]) ∧ own''.map (·.1) = own.map (·.1) ∧ Sn c' g' mc' (oi ++ ([(D, lstO vs k)] ++ own'')) s₄) E' s₃
        else ∃ g' mc' own'', VSub g g' ∧ Mc mc' ∧ Inv (i + 1) g' own'' vs ∧ own''.map (·.1) = own.map (·.1) ∧ Sn c' g' mc' (oi ++ ([(D, lstO vs k)] ++ own'')) s₃) E' s₂) E' s)
    (fin : ∀ D C oC mm g' own' vs k s', c.n₀ ≤ D → VSub g g' → Inv n g' own' vs → own'.map (·.1) = own.map (·.1) → (∀ h : Heap, h.get? C = some oC → h.Ns C mm) → Sn c g' m ((C, oC) :: ([(D, lstO vs k)] ++ (own' ++ rest))) s' → compPost (model prog w) A E use Q (.ref D) C (.ok .next) s') :
    CompGo prog w A E c Q use elt target iter ifs scope pos cl it s := by
  have hsc : relabel scope c.env = relabel scope e0 := by rw [he0]
  have S : Sn c g m (oi ++ (own ++ rest)) s := S0.perm (List.Perm.append_left _ hp.perm)
  unfold compOk at hok
  simp only [Bool.and_eq_true] at hok
  obtain ⟨⟨⟨⟨k1, k2⟩, k3⟩, k4⟩, k5⟩ := hok
  have hkind : scope.kind = .function := by simpa using k1
  have hcell : ∀ x ∈ scope.names, x.2 ≠ .cell := fun x hx => by
    have := List.all_eq_true.mp k3 x hx
    simpa using this
  obtain ⟨sl1, sl2, sl3⟩ := slots.all
  unfold CompGo
  refine r_newL S (fun D s₁ hD S1 => ?_) (Nat.zero_le _)
  refine wpAny_newFunctionEnv hcell (by intro y hy; simp at hy) (fun h₁ hns hsb => ?_) hkind
  have sz1 : s₁.heap.objs.size < (s₁.heap.push { cls := .type "dict", data := .dict #[] }).objs.size := by rw [Heap.size_push]; exact Nat.lt_succ_self _
  have kp1 : ∀ b o, s₁.heap.get? b = some o → h₁.get? b = some o := fun b o e => hsb.extBut b o (Nat.ne_of_lt (Heap.lt_size e)) (Heap.get?_push_of_some _ e)
  -- the ledger inside
  let ow : Led := oi ++ ([(D, lstO [] 0)] ++ own)
  have pm : ((D, lstO [] 0) :: (oi ++ (own ++ rest))).Perm (ow ++ rest) := by
    show ((D, lstO [] 0) :: (oi ++ (own ++ rest))).Perm ((oi ++ ([(D, lstO [] 0)] ++ own)) ++ rest)
    rw [List.append_assoc, List.append_assoc]
    exact List.perm_middle.symm
  have S2 := S1.perm pm
  let c' : Cx := ⟨compEnvC scope cl s₁.heap.objs.size c.env, hideAll s₁.heap (ow.map (·.1)), g, s₁.heap.objs.size, c.G0, gls, { s₁ with heap := h₁, toks := s₁.toks + ([] : List (Str × Value)).length }⟩
  have none_of : ∀ a, s₁.heap.objs.size ≤ a → s₁.heap.get? a = none := fun a ha => by
    cases q : s₁.heap.get? a with
    | none => rfl
    | some o' => exact absurd (Heap.lt_size q) (Nat.not_lt.mpr ha)
  have lt2 := S2.st.lt
  have inO : ∀ a ∈ ow.map (·.1), a ∈ owns c.env.locals m (ow ++ rest) := fun a ha => .tail _ (List.mem_append_right _ (by rw [List.map_append]; exact List.mem_append_left _ ha))
  have hgn : ∀ a ∈ ow.map (·.1), g a = none := fun a ha => (S2.st.hn a (inO a ha)).2
  have S3 : Sn c' g mc0 ow { s₁ with heap := h₁, toks := s₁.toks + ([] : List (Str × Value)).length } := by
    refine ⟨⟨⟨?_, S.st.ok.gl, S.st.ok.bl, fun p hp => ?_, fun p hp => ?_⟩, gb, of_decide_eq_true k5, ?_, fun a ha => ?_, ?_, fun n c'' v hm => ?_, fun p hp => kp1 _ _ (S2.st.ob p (List.mem_append_left _ hp)), fun n a v hm => ?_,
      fun b o e => kp1 _ _ (of_hideAll _ e), fun b o e => kp1 _ _ (S1.sub _ _ e), fun b o e => hideAll_get _ (S1.top e) fun q => ?_, VSub.refl g, fun a o e => .inl e, Nat.le_refl _, fun b o e => S1.gtop e⟩, rfl, ?_⟩
    · show (relabel scope c.env).kind = .function; exact hkind
    · obtain ⟨d1, d2⟩ := sl1 p hp
      refine ⟨d1, ?_⟩
      rcases d2 with ⟨e1, e2⟩ | ⟨a, v, n', e1, e2, e3, e4⟩
      · rw [e1]; show (relabel scope c.env).names.lookup p.1 = _; rw [hsc]; exact e2
      · rw [e1]
        refine ⟨.inl ?_, e3⟩
        show (relabel scope c.env).names.lookup p.1 = _; rw [hsc]; exact e2
    · have q := List.all_eq_true.mp k4 p hp
      simp only [Bool.and_eq_true, beq_iff_eq, Bool.not_eq_true'] at q
      refine ⟨?_, q.2⟩
      show (relabel scope c.env).names.lookup p.1 = _; rw [hsc]; exact q.1
    · show (s₁.heap.objs.size :: (cellsOf mc0 ++ ow.map (·.1))).Nodup
      rw [sl2, List.nil_append]
      refine List.nodup_cons.mpr ⟨fun q => Nat.lt_irrefl _ (lt2 _ (inO _ q)), ?_⟩
      have dj := (List.nodup_append.mp (List.nodup_cons.mp S2.st.dj).2).2.1
      rw [List.map_append] at dj
      exact (List.nodup_append.mp dj).1
    · have ha' : a ∈ s₁.heap.objs.size :: (cellsOf mc0 ++ ow.map (·.1)) := ha
      rw [sl2, List.nil_append] at ha'
      rcases List.mem_cons.mp ha' with rfl | q
      · refine ⟨?_, ?_⟩
        · cases z : (hideAll s₁.heap (ow.map (·.1))).get? s₁.heap.objs.size with
          | none => exact z
          | some o' => have := of_hideAll _ z; rw [none_of _ (Nat.le_refl _)] at this; cases this
        · cases z : g s₁.heap.objs.size with
          | none => rfl
          | some o' => have := S1.sub _ _ z; rw [none_of _ (Nat.le_refl _)] at this; cases this
      · exact ⟨hideAll_none _ q, hgn a q⟩
    · show h₁.Ns s₁.heap.objs.size (locOf mc0)
      rw [sl3]; exact hns
    · have := cells_mem hm; rw [sl2] at this; cases this
    · obtain ⟨d1, d2⟩ := sl1 _ hm
      rcases d2 with ⟨e1, e2⟩ | ⟨a', v', n', e1, e2, e3, e4⟩
      · cases e1
      · cases e1
        obtain ⟨o, ho, hd⟩ := S2.st.cl _ _ _ e4
        refine ⟨o, hideAll_get _ ho fun q => ?_, hd⟩
        have dj2 := List.nodup_append.mp (List.nodup_cons.mp S2.st.dj).2
        exact dj2.2.2 a (cells_mem e4) a (by rw [List.map_append]; exact List.mem_append_left _ q) rfl
    · have := S1.gtop e; rw [hgn b q] at this; cases this
    · show c.G0.objs.size ≤ s₁.heap.objs.size
      exact Nat.le_trans S1.gz S1.sz
  -- the loop
  have loop : codeAny (model prog w) A (.compLoop (.ListComp elt [⟨target, iter, ifs, 0⟩] scope pos) 0 it (.ref D) c'.env) (compPost (model prog w) A E use Q (.ref D) s₁.heap.objs.size) { s₁ with heap := h₁, toks := s₁.toks + ([] : List (Str × Value)).length } := by
    refine codeAny_compLoop_go (fun q s' => ∃ i g' mc oi' own' vs k, i ≤ n ∧ q = n + 1 - i ∧ Sn c' g' mc (oi' ++ ([(D, lstO vs k)] ++ own')) s' ∧ T i g' oi' ∧ oi'.map (·.1) = oi.map (·.1) ∧ Mc mc ∧ Inv i g' own' vs ∧ own'.map (·.1) = own.map (·.1) ∧ VSub g g') ?_ (n + 1)
      ⟨0, g, mc0, oi, own, [], 0, Nat.zero_le _, rfl, S3, t0, rfl, hm0, h0, rfl, VSub.refl g⟩
    intro q s' hq
    refine hide1 q fun XX hXX => ?_
    obtain ⟨i, g', mc, oi', own', vs, k, hi, rfl, X, ti, eo, hM, hI, ew, hv⟩ := hq
    refine hXX _ ?_
    clear hXX
    by_cases hlt : i < n
    · refine wpAny_mono (I.item (target := target) (K := fun v s₂ => ∃ g2 oi2, VSub g' g2 ∧ P i g2 v ∧ T (i + 1) g2 oi2 ∧ oi2.map (·.1) = oi'.map (·.1) ∧ Sn c' g2 mc (oi2 ++ ([(D, lstO vs k)] ++ own')) s₂) hh ti hlt X tg tn fun v g2 oi2 s₂ a1 a2 a3 a4 a5 => ⟨g2, oi2, a1, a2, a3, a4, a5⟩) (fun r s₂ h => ?_) fun _ _ e => e
      obtain ⟨v, rfl, h⟩ := h
      refine wpAny_mono h (fun _ s₂ q => ?_) fun _ _ e => e
      refine hide0 fun XX hXX => ?_
      obtain ⟨g2, oi2, a1, a2, a3, a4, a5⟩ := q
      refine hXX ?_
      clear hXX
      refine wpAny_mono (step c' s₁.heap.objs.size D i v g' g2 mc oi2 own' vs k s₂ _ rfl rfl rfl hlt a1 a2 a3 hI ew hM a5) (fun _ s₃ q => wpAny_mono q (fun ok s₄ q => ?_) fun _ _ e => e) fun _ _ e => e
      cases ok with
      | false =>
        simp only [Bool.false_eq_true, if_false] at q ⊢
        refine hide0 fun XX hXX => ?_
        obtain ⟨g3, mc3, own3, b1, b2, b3, b4, b5⟩ := q
        refine hXX ?_
        clear hXX
        exact ⟨n + 1 - (i + 1), by lia, i + 1, g3, mc3, oi2, own3, vs, k, hlt, rfl, b5, I.up a3 b1, a4.trans eo, b2, b3, b4, (hv.trans a1).trans b1⟩
      | true =>
        simp only [if_true] at q ⊢
        refine wpAny_mono q (fun y s₅ q => ?_) fun _ _ e => e
        refine hide0 fun XX hXX => ?_
        obtain ⟨g3, mc3, own3, b1, b2, b3, b4, b5⟩ := q
        refine hXX ?_
        clear hXX
        have hlen : vs.length ≤ sizeLine := by
          have := len _ _ _ _ b3
          simp only [List.length_append, List.length_singleton] at this
          lia
        refine r_app b5 (LUp.app .hd) (fun s₆ S6 => ?_) hlen
        exact ⟨n + 1 - (i + 1), by lia, i + 1, g3, mc3, oi2, own3, vs ++ [y], k + 1, hlt, rfl, S6, I.up a3 b1, a4.trans eo, b2, b3, b4, (hv.trans a1).trans b1⟩
    · have e : i = n := by lia
      subst e
      refine I.done hh ti X fun s₂ X2 => ?_
      obtain ⟨oC, es, ep, hoC, hns2⟩ := id X2.st.ns
      have hC : s₁.heap.objs.size ∉ ((D, lstO vs k) :: own').map (·.1) := fun q => (List.nodup_cons.mp X2.st.dj).1 (List.mem_append_right _ q)
      refine fin D s₁.heap.objs.size oC _ g' own' vs k s₂ hD hv hI ew (fun h' e => ⟨oC, es, ep, e, hns2⟩) ?_
      have St1 : St c.G0 c.gls c.fx g m (oi ++ (([(D, lstO [] 0)] ++ own) ++ rest)) s₁.heap := by
        have := S2.st
        rwa [show ow ++ rest = oi ++ (([(D, lstO [] 0)] ++ own) ++ rest) from List.append_assoc _ _ _] at this
      have key : St c.G0 c.gls c.fx g' m (([(D, lstO vs k)] ++ own') ++ rest) s₂.heap := by
        refine St.out2 St1 (fun b o e n1 n2 => ?_) (fun p hp => X2.st.ob p hp) ?_ hv (fun a o e => ?_) (fun a o e => X2.sub _ _ e)
        · refine X2.st.keep b o (hideAll_get _ e fun q => ?_)
          have q' : b ∈ (oi ++ ([(D, lstO [] 0)] ++ own)).map (·.1) := q
          rw [List.map_append] at q'
          rcases List.mem_append.mp q' with z | z
          · exact n1 z
          · exact n2 z
        · show D :: own'.map (·.1) = D :: own.map (·.1)
          rw [ew]
        · have := X2.st.ext a o e
          exact this
      have nC : s₁.heap.objs.size ∉ owns c.env.locals m (([(D, lstO vs k)] ++ own') ++ rest) := fun q => by
        have q2 : s₁.heap.objs.size ∈ owns c.env.locals m (([(D, lstO [] 0)] ++ own) ++ rest) := by
          have e : owns c.env.locals m (([(D, lstO vs k)] ++ own') ++ rest) = owns c.env.locals m (([(D, lstO [] 0)] ++ own) ++ rest) := by
            unfold owns; simp only [List.map_append, List.map_cons, ew]
          rwa [e] at q
        have S1' := St1.drop (List.sublist_append_right oi _)
        exact Nat.lt_irrefl _ (S1'.lt _ q2)
      have key2 := key.add hoC nC (by
        cases z : c.h₀.get? s₁.heap.objs.size with
        | none => exact z
        | some o' => have := S1.st.keep _ _ z; rw [none_of _ (Nat.le_refl _)] at this; cases this) (X2.st.hn s₁.heap.objs.size (.head _)).2
      have e2 := X2.eq
      refine ⟨by rw [← List.append_assoc]; exact key2, ?_, S.gz⟩
      have e3 := S1.eq
      rw [e2]
      show ({ s₁ with heap := _, toks := _ } : Shared) = _
      rw [e3]
  exact codeAny_compStart_list loop (I.self t0 S3 loop)
theorem comp_itr {elt target iter : Expr} {ifs : List Expr} {scope : Scope} {e0 : Env} {pos : Pos} {cl : List (Str × Addr)} {Q : Value → Shared → Prop} {nmOk : Bool} {it : Value} {n : Nat} {P : Nat → Vis → Value → Prop} {T : Nat → Vis → Led → Prop} {gls : List (Str × Value)} {mc0 : Loc}
    (I : Itr prog w nmOk it n P T) (Mc : Loc → Prop) (Inv : Nat → Vis → Led → List Value → Prop) (he0 : c.env = e0) (hok : compOk scope (relabel scope e0) gls (names mc0) = true) (gb : Glb c.G0 gls) (slots : SlotsOk (relabel scope e0) cl m mc0) (hm0 : Mc mc0)
    (hh : A.handled = none) (tg : IsTgt target) (tn : nmOk = true ∨ ∃ es k p, target = .Tuple es k p)
    (S0 : Sn c g m (oi ++ news) s) (hp : Pick own news rest) (t0 : T 0 g oi) (h0 : Inv 0 g own [])
    (len : ∀ i g own vs, Inv i g own vs → vs.length < sizeLine)
    (step : ∀ c' C D i v g0 g mc oi own' vs k s E', c'.env = compEnvC scope cl C c.env → c'.gls = gls → c'.G0 = c.G0 → i < n → VSub g0 g → P i g v → T (i + 1) g oi → Inv i g0 own' vs → own'.map (·.1) = own.map (·.1) → Mc mc →
      Sn c' g mc (oi ++ ([(D, lstO vs k)] ++ own')) s →
      wpAny (model prog w) A (assign target c'.env v) (fun _ s₂ => wpAny (model prog w) A (forIn ifs true fun c r => if r = true then do let ok ← isTrue c c'.env (eval c c'.env); pure (ForInStep.yield ok) else pure (ForInStep.yield r)) (fun ok s₃ =>
        if ok = true then wpAny (model prog w) A (eval elt c'.env) (fun y s₄ => ∃ g' mc' own'', VSub g g' ∧ Mc mc' ∧ Inv (i + 1) g' own'' (vs ++ [y]) ∧ own''.map (·.1) = own.map (·.1) ∧ Sn c' g' mc' (oi ++ ([(D, lstO vs k)] ++ own'')) s₄) E' s₃
        else ∃ g' mc' own'', VSub g g' ∧ Mc mc' ∧ Inv (i + 1) g' own'' vs ∧ own''.map (·.1) = own.map (·.1) ∧ Sn c' g' mc' (oi ++ ([(D, lstO vs k)] ++ own'')) s₃) E' s₂) E' s)
    (fin : ∀ D g' own' vs k s', c.n₀ ≤ D → VSub g g' → Inv n g' own' vs → own'.map (·.1) = own.map (·.1) → Sn c g' m ([(D, lstO vs k)] ++ (own' ++ rest)) s' → Q (.ref D) s') :
    CompGo prog w A E c Q none elt target iter ifs scope pos cl it s :=
  comp_itr0 (use := none) I Mc Inv he0 hok gb slots hm0 hh tg tn S0 hp t0 h0 len step fun D C oC mm g' own' vs k s' hD hv hI ew hns S' =>
    ⟨mm, hns _ (S'.at .hd), fun h' hs' => fin D g' own' vs k _ hD hv hI ew (S'.gone (tk := s'.toks) .hd fun b o' n e => hs'.extBut b o' n e)⟩
theorem comp_itrU {elt target iter : Expr} {ifs : List Expr} {scope : Scope} {e0 : Env} {pos : Pos} {cl : List (Str × Addr)} {Q : Value → Shared → Prop} {nmOk : Bool} {it : Value} {n : Nat} {P : Nat → Vis → Value → Prop} {T : Nat → Vis → Led → Prop} {nm : Str} {np : Pos} {mS : Addr → Loc} {gls : List (Str × Value)} {mc0 : Loc}
    (I : Itr prog w nmOk it n P T) (Mc : Loc → Prop) (Inv : Nat → Vis → Led → List Value → Prop) (he0 : c.env = e0) (hok : compOk scope (relabel scope e0) gls (names mc0) = true) (gb : Glb c.G0 gls) (slots : SlotsOk (relabel scope e0) cl m mc0) (hm0 : Mc mc0)
    (hh : A.handled = none) (tg : IsTgt target) (tn : nmOk = true ∨ ∃ es k p, target = .Tuple es k p)
    (S0 : Sn c g m (oi ++ news) s) (hp : Pick own news rest) (t0 : T 0 g oi) (h0 : Inv 0 g own [])
    (len : ∀ i g own vs, Inv i g own vs → vs.length < sizeLine)
    (step : ∀ c' C D i v g0 g mc oi own' vs k s E', c'.env = compEnvC scope cl C c.env → c'.gls = gls → c'.G0 = c.G0 → i < n → VSub g0 g → P i g v → T (i + 1) g oi → Inv i g0 own' vs → own'.map (·.1) = own.map (·.1) → Mc mc →
      Sn c' g mc (oi ++ ([(D, lstO vs k)] ++ own')) s →
      wpAny (model prog w) A (assign target c'.env v) (fun _ s₂ => wpAny (model prog w) A (forIn ifs true fun c r => if r = true then do let ok ← isTrue c c'.env (eval c c'.env); pure (ForInStep.yield ok) else pure (ForInStep.yield r)) (fun ok s₃ =>
        if ok = true then wpAny (model prog w) A (eval elt c'.env) (fun y s₄ => ∃ g' mc' own'', VSub g g' ∧ Mc mc' ∧ Inv (i + 1) g' own'' (vs ++ [y]) ∧ own''.map (·.1) = own.map (·.1) ∧ Sn c' g' mc' (oi ++ ([(D, lstO vs k)] ++ own'')) s₄) E' s₃
        else ∃ g' mc' own'', VSub g g' ∧ Mc mc' ∧ Inv (i + 1) g' own'' vs ∧ own''.map (·.1) = own.map (·.1) ∧ Sn c' g' mc' (oi ++ ([(D, lstO vs k)] ++ own'')) s₃) E' s₂) E' s)
    (hset : ∀ D, Set nm (.ref D) m (mS D))
    (fin : ∀ D g' own' vs k s', c.n₀ ≤ D → VSub g g' → Inv n g' own' vs → own'.map (·.1) = own.map (·.1) → Sn c g' (mS D) ([(D, lstO vs k)] ++ (own' ++ rest)) s' → Q .none s') :
    CompGo prog w A E c Q (some (assign (.Name nm np) c.env)) elt target iter ifs scope pos cl it s :=
  comp_itr0 (use := some (assign (.Name nm np) c.env)) I Mc Inv he0 hok gb slots hm0 hh tg tn S0 hp t0 h0 len step fun D C oC mm g' own' vs k s' hD hv hI ew hns S' =>
    wpAny_assign_Name (n_st S' (hset D) fun s'' S'' => ⟨mm, hns _ (S''.at .hd), fun h' hs' => fin D g' own' vs k _ hD hv hI ew (S''.gone (tk := s''.toks) .hd fun b o' n e => hs'.extBut b o' n e)⟩)
theorem x_asgC {nm : Str} {p' pos cpos : Pos} {elt target iter : Expr} {ifs : List Expr} {scope : Scope} {cl : List (Str × Addr)} {rest : List Stmt} {Q : Flow → Shared → Prop} (hsw : swapsWith (.ListComp elt [⟨target, iter, ifs, 0⟩] scope cpos) (some (.Name nm p')) pos.line c.env = pure true)
    (hclos : closureFor scope c.env = pure cl) (hkind : scope.kind = .function) (hnames : (scope.names.all fun x => !(x.2 == .local) || scope.names.lookup x.1 == some .local) = true)
    (h : ∀ K, Back K (fun s' => wpAny (model prog w) A (execs rest c.env) Q E s') → wpAny (model prog w) A (eval iter c.env) (fun xv s₁ => wpAny (model prog w) A (pyIter xv) (fun it s₂ => CompGo prog w A E c (fun _ s' => K s') (some (assign (.Name nm p') c.env)) elt target iter ifs scope cpos cl it s₂) E s₁) E s)
    (hs : ∀ x, foldedSetIterable iter c.env x = pure x) : wpAny (model prog w) A (execs (.Assign [.Name nm p'] (.ListComp elt [⟨target, iter, ifs, 0⟩] scope cpos) pos :: rest) c.env) Q E s := by
  refine x_then ?_
  rw [exec_Assign_Name_used _ _ _ _ hsw]
  refine wpAny_bind (wpAny_standAt (wpAny_bind ?_))
  have z := wpAny_comprehension_free (M := model prog w) (A := A) (E := E) (s := s) (e := .ListComp elt [⟨target, iter, ifs, 0⟩] scope cpos) (pos := firstIterPos [⟨target, iter, ifs, 0⟩] cpos) (newAcc := newList []) (first := eval iter c.env) (use := some (assign (.Name nm p') c.env))
    (Q := fun _ s' => wpAny (model prog w) A (execs rest c.env) Q E s') rfl hs hclos hkind (fun x hx hl => by have := List.all_eq_true.mp hnames x hx; simpa [hl] using this) (h _ fun _ q => q)
  exact wpAny_bind (m := comprehension _ _ _ _ _ _ _ (some _)) (wpAny_mono z (fun _ s' q => wpAny_pure (wpAny_pure q)) fun _ _ e => e)
end
end Mine

-- MSeq
namespace Mine
section flow
variable {M : Model} {A : Around} {E : Value → Shared → Prop} {s : Shared} {env : Env} {rest : List Stmt} {Q : Flow → Shared → Prop}
theorem x_tup {elts : List Expr} {k : Nat} {tpos pos : Pos} {value : Expr} (h : ∀ K, Back K (fun s₂ => wpAny M A (execs rest env) Q E s₂) → wpAny M A (eval value env) (fun v s₁ => wpAny M A (assign (.Tuple elts k tpos) env v) (fun _ s₂ => K s₂) E s₁) E s)
    (hs : swapsWithSole [.Tuple elts k tpos] value pos.line env = pure false) (hw : swappedStores [.Tuple elts k tpos] value env = pure none) :
    wpAny M A (execs (.Assign [.Tuple elts k tpos] value pos :: rest) env) Q E s := x_then (Assign_Tuple (h _ fun _ q => q) hs hw)
theorem x_tupS {elts : List Expr} {k : Nat} {tpos pos : Pos} {value : Expr} {ns : List Str} (hs : swapsWithSole [.Tuple elts k tpos] value pos.line env = pure false) (hw : swappedStores [.Tuple elts k tpos] value env = pure (some ns))
    (h : ∀ K, Back K (fun s₃ => wpAny M A (execs rest env) Q E s₃) → wpAny M A (eval value env) (fun v s₁ => wpAny M A (unpackItems v ns.length none) (fun items s₂ => wpAny M A (assignInOrder (ns.reverse.map fun n => bindName env n) items.reverse) (fun _ s₃ => K s₃) E s₂) E s₁) E s) :
    wpAny M A (execs (.Assign [.Tuple elts k tpos] value pos :: rest) env) Q E s := x_then (Assign_Tuple_swapped (h _ fun _ q => q) hs hw)
theorem x_sub {o i : Expr} {pos' pos : Pos} {value : Expr} (h : ∀ K, Back K (fun s₄ => wpAny M A (execs rest env) Q E s₄) → wpAny M A (eval value env) (fun v s₁ => wpAny M A (eval o env) (fun ov s₂ => wpAny M A (eval i env) (fun iv s₃ => wpAny M A (setItem ov iv v) (fun _ s₄ => K s₄) E s₃) E s₂) E s₁) E s)
    (hs : swapsWith value (some (.Subscript o i pos')) pos.line env = pure false) : wpAny M A (execs (.Assign [.Subscript o i pos'] value pos :: rest) env) Q E s := x_then (wpAny_Assign_Subscript (h _ fun _ q => q) hs)
theorem a_name {x : Str} {p : Pos} {v : Value} {Q : Unit → Shared → Prop} (h : wpAny M A (storeName env x v) Q E s) : wpAny M A (assign (.Name x p) env v) Q E s := wpAny_assign_Name h
theorem a_more {e : Expr} {es : List Expr} {v : Value} {vs : List Value} {Q : Unit → Shared → Prop} (h : wpAny M A (assign e env v) (fun _ s₁ => wpAny M A (assignInOrder ((assignEach es env).map (·.2)) vs) Q E s₁) E s)
    (he : assignEach (e :: es) env = (false, assign e env) :: assignEach es env) : wpAny M A (assignInOrder ((assignEach (e :: es) env).map (·.2)) (v :: vs)) Q E s := by
  rw [he]
  exact wpAny_assignInOrder_more h
theorem a_done {Q : Unit → Shared → Prop} (h : Q () s) : wpAny M A (assignInOrder ((assignEach [] env).map (·.2)) []) Q E s := wpAny_assignInOrder_none h
theorem o_more {n : Str} {ns : List Str} {v : Value} {vs : List Value} {Q : Unit → Shared → Prop} (h : wpAny M A (storeName env n v) (fun _ s₁ => wpAny M A (assignInOrder (ns.map fun n => bindName env n) vs) Q E s₁) E s) :
    wpAny M A (assignInOrder ((n :: ns).map fun n => bindName env n) (v :: vs)) Q E s := wpAny_assignInOrder_more (wpAny_bindName h)
theorem o_done {Q : Unit → Shared → Prop} (h : Q () s) : wpAny M A (assignInOrder (([] : List Str).map fun n => bindName env n) []) Q E s := wpAny_assignInOrder_none h
end flow
section
variable {prog : Program} {w : World} {A : Around} {E : Value → Shared → Prop} {s : Shared}
variable {c : Cx} {g : Vis} {m m' : Loc} {news news' own rest : Led} {d : Nat}

theorem a_tup {elts : List Expr} {k : Nat} {pos : Pos} {a : Addr} {vs : List Value} {n : Nat} {Q : Unit → Shared → Prop} (S : Sn c g m news s) (hh : A.handled = none) (hg : s.heap.get? a = some { cls := .type "tuple", data := .seq (List.toArray vs) n })
    (hn : (assignEach elts c.env).length = vs.length) (hstar : (assignEach elts c.env).findIdx? (·.1) = none)
    (h : ∀ s', Sn c g m news s' → wpAny (model prog w) A (assignInOrder ((assignEach elts c.env).map (·.2)) vs) Q E s') : wpAny (model prog w) A (assign (.Tuple elts k pos) c.env (.ref a)) Q E s := by
  refine wpAny_assign_Tuple hh (items := vs.toArray) ⟨_, hg, rfl, n, rfl⟩ (by simpa using hn) hstar fun h' he => ?_
  exact h _ (S.grow (tk := s.toks) fun b o e => he b o (Nat.ne_of_lt (Heap.lt_size e)) e)
theorem u_tup {a : Addr} {vs : List Value} {n k : Nat} {Q : List Value → Shared → Prop} (S : Sn c g m news s) (hh : A.handled = none) (hg : s.heap.get? a = some { cls := .type "tuple", data := .seq (List.toArray vs) n }) (hn : k = vs.length)
    (h : ∀ s', Sn c g m news s' → Q vs s') : wpAny (model prog w) A (unpackItems (.ref a) k none) Q E s := by
  subst hn
  have := wpAny_unpackItems_tuple (prog := prog) (w := w) (A := A) (E := E) (s := s) (t := a) (items := vs.toArray) (Q := Q) hh ⟨_, hg, rfl, n, rfl⟩ fun h' he => by
    have := h _ (S.grow (tk := s.toks) (h' := h') fun b o e => he b o (Nat.ne_of_lt (Heap.lt_size e)) e)
    simpa using this
  simpa using this
theorem b_addL {a b : Addr} {vs ws : List Value} {n n2 : Nat} {Q : Value → Shared → Prop} (S : Sn c g m news s) (ha : s.heap.get? a = some { cls := .type "list", data := .seq (List.toArray vs) n }) (hb : s.heap.get? b = some { cls := .type "list", data := .seq (List.toArray ws) n2 })
    (h : ∀ r s', c.n₀ ≤ r → Sn c g m ((r, lstO (vs ++ ws) 0) :: news) s' → Q (.ref r) s') (hsz : vs.length + ws.length ≤ sizeLine) : wpAny (model prog w) A (binaryOp .Add (.ref a) (.ref b)) Q E s :=
  add_lists (hsz := hsz) S.fr.1 S.fr.2 ⟨_, ha, rfl, n, rfl⟩ ⟨_, hb, rfl, n2, rfl⟩ fun h' F N => h _ _ S.sz (S.ofFr1 (tk := s.toks) (Nat.le_refl _) F N)
theorem r_tupL {a : Addr} {vs : List Value} {n : Nat} {Q : Value → Shared → Prop} (S : Sn c g m news s) (ha : s.heap.get? a = some { cls := .type "list", data := .seq (List.toArray vs) n })
    (h : ∀ r s', c.n₀ ≤ r → Sn c g m ((r, tupO vs) :: news) s' → Q (.ref r) s') (hsz : vs.length ≤ sizeLine) : wpAny (model prog w) A (call (.type "tuple") [.ref a]) Q E s := by
  refine call_tuple_list (items := vs.toArray) ⟨_, ha, rfl, n, rfl⟩ (fun h' hk => ?_) (by simpa using hsz)
  have S1 : Sn c g m news { s with heap := h', toks := s.toks } := S.grow hk
  exact h _ _ S1.sz (S1.push (tk := s.toks) rfl)
theorem s_lstN {a : Addr} {vs : List Value} {n : Nat} {k : Nat} {t : Tok} {v : Value} {value slice : Expr} {ops : List Value} {Q : Value → Shared → Prop} (S : Sn c g m news s) (hg : s.heap.get? a = some { cls := .type "list", data := .seq (List.toArray vs) n })
    (hfit : k < 2 ^ 62) (hx : vs[k]? = some v) (h : Q v s)
    (hs : subscripted slice false (.ref a) (.int k t) = operate ops (getItem (.ref a) (.int k t)) := by with_unfolding_all rfl) :
    wpAny (model prog w) A (subscriptTail value slice (.ref a) (.int k t)) Q E s :=
  s_lst S hg (by lia) (by lia) (by simpa using hx) h hs
/-- a dict of the ledger: a key is set -/
theorem d_set {dA : Addr} {oD : Obj} {kvs : List (Str × Value)} {key : Str} {t : Tok} {v : Value} {Q : Unit → Shared → Prop} (S : Sn c g m news s) (hm : LMem dA oD news) (hD : oD.IsDictOf (strKind prog w) kvs)
    (h : ∀ oD' s', oD'.IsDictOf (strKind prog w) (stored kvs key v) → (∀ news', LUp dA oD oD' news news' → Sn c g m news' s') → Q () s') (hsz : kvs.length ≤ sizeLine) : wpAny (model prog w) A (setItem (.ref dA) (.str key t) v) Q E s := by
  refine wpAny_setItem_pairs (hsz := hsz) (strKind_is prog w key t) (Heap.dictOf_iff.mpr ⟨_, S.at hm, hD⟩) fun h' hd hs => ?_
  obtain ⟨oD', ho, hD'⟩ := Heap.dictOf_iff.mp hd
  exact h oD' _ hD' fun news' u => S.chg (tk := s.toks + 1) u hs ho
theorem c_go {elt target iter : Expr} {ifs : List Expr} {scope : Scope} {pos : Pos} {cl : List (Str × Addr)} {Q : Value → Shared → Prop} {it : Value} (h : CompGo prog w A E c Q none elt target iter ifs scope pos cl it s) : CompGo prog w A E c Q none elt target iter ifs scope pos cl it s := h
theorem tests_nil {env : Env} {Q : Bool → Shared → Prop} (h : Q true s) :
    wpAny (model prog w) A (forIn ([] : List Expr) true fun c r => if r = true then do let ok ← isTrue c env (eval c env); pure (ForInStep.yield ok) else pure (ForInStep.yield r)) Q E s := wpAny_tests_nil h
theorem tests_one {env : Env} {e : Expr} {Q : Bool → Shared → Prop} (h : wpAny (model prog w) A (isTrue e env (eval e env)) Q E s) :
    wpAny (model prog w) A (forIn [e] true fun c r => if r = true then do let ok ← isTrue c env (eval c env); pure (ForInStep.yield ok) else pure (ForInStep.yield r)) Q E s := wpAny_tests_one h
end
end Mine
namespace Mine
section
variable {prog : Program} {w : World} {A : Around} {E : Value → Shared → Prop} {s : Shared}
variable {c : Cx} {g : Vis} {m m' : Loc} {news news' own rest : Led} {d : Nat}
/-- displays of int constants -/
noncomputable def cInt : Const → Option Int
  | .int i => some i
  | _ => none
noncomputable def conV : Expr → Option Const
  | .Constant c _ _ => some c
  | _ => none
noncomputable def unV : Expr → Option (UnaryOp × Expr)
  | .UnaryOp o e _ => some (o, e)
  | _ => none
noncomputable def tupV : Expr → Option (List Expr)
  | .Tuple es _ _ => some es
  | _ => none
noncomputable def intOf (e : Expr) : Option Int := match conV e with
  | some c => cInt c
  | none => (unV e).bind fun u => (conV u.2).bind fun c => (cInt c).bind fun i => if u.1 = .USub then some (-i) else none
noncomputable def intsOf (es : List Expr) : Option (List Int) := es.mapM intOf
noncomputable def tupsOf (es : List Expr) : Option (List (List Int)) := es.mapM fun e => (tupV e).bind intsOf
theorem cInt_ok {c : Const} {i : Int} (h : cInt c = some i) : c = .int i := by cases c <;> first | exact nn h | exact congrArg Const.int (Option.some.inj h)
theorem conV_ok {e : Expr} {c : Const} (h : conV e = some c) : ∃ k p, e = .Constant c k p := by cases e <;> first | exact nn h | exact ⟨_, _, congrArg (Expr.Constant · _ _) (Option.some.inj h)⟩
theorem unV_ok {e : Expr} {u : UnaryOp × Expr} (h : unV e = some u) : ∃ p, e = .UnaryOp u.1 u.2 p := by cases e <;> first | exact nn h | exact ⟨_, congrArg (fun u : UnaryOp × Expr => Expr.UnaryOp u.1 u.2 _) (Option.some.inj h)⟩
theorem tupV_ok {e : Expr} {es : List Expr} (h : tupV e = some es) : ∃ k p, e = .Tuple es k p := by cases e <;> first | exact nn h | exact ⟨_, _, congrArg (Expr.Tuple · _ _) (Option.some.inj h)⟩
theorem intOf_ok {e : Expr} {i : Int} (h : intOf e = some i) : (∃ k p, e = .Constant (.int i) k p) ∨ ∃ j k p p', i = -j ∧ e = .UnaryOp .USub (.Constant (.int j) k p) p' := by
  unfold intOf at h
  cases hc : conV e with
  | some c =>
    rw [hc] at h
    obtain ⟨k, p, e1⟩ := conV_ok hc
    exact .inl ⟨k, p, e1.trans (congrArg (Expr.Constant · k p) (cInt_ok h))⟩
  | none =>
    rw [hc] at h
    refine bind_ok h fun u h1 h => bind_ok h fun c h2 h => bind_ok h fun j h3 h => if_ok h fun q e4 => ?_
    obtain ⟨p, e1⟩ := unV_ok h1
    obtain ⟨k, p', e2⟩ := conV_ok h2
    rw [q, e2, cInt_ok h3] at e1
    exact .inr ⟨j, k, p', p, e4.symm, e1⟩
theorem e_intOf {e : Expr} {i : Int} {env : Env} {Q : Value → Shared → Prop} (h : intOf e = some i) (S : Sn c g m news s) (k : ∀ t s', Sn c g m news s' → Q (.int i t) s') : wpAny (model prog w) A (eval e env) Q E s := by
  rcases intOf_ok h with ⟨_, _, rfl⟩ | ⟨_, _, _, _, rfl, rfl⟩
  · exact e_int S fun s' t S' => k t s' S'
  · exact UnaryOp_ (e_int S fun s' t S' => b_neg S' fun s'' t' S'' => k t' s'' S'')
theorem intOf_star {e : Expr} {i : Int} {rest : List Expr} {env : Env} (h : intOf e = some i) : starEach (e :: rest) env = (false, eval e env) :: starEach rest env := by
  rcases intOf_ok h with ⟨_, _, rfl⟩ | ⟨_, _, _, _, rfl, rfl⟩ <;> rfl
theorem spl_ints {env : Env} {pos : Pos} {es : List Expr} : ∀ {ks : List Int} {s : Shared} {Q : List Value → Shared → Prop}, intsOf es = some ks → Sn c g m news s → (∀ vs s', IntsAre vs ks → Sn c g m news s' → Q vs s') → wpAny (model prog w) A (spliced (backTo pos (starEach es env))) Q E s := by
  induction es with
  | nil => intro ks s Q h S k; cases Option.some.inj h; exact spliced_none (k _ _ .nil S)
  | cons e r ih =>
    intro ks s Q h S k
    unfold intsOf at h
    rw [List.mapM_cons] at h
    refine bind_ok h fun i h1 h => bind_ok h fun l h2 h => ?_
    cases Option.some.inj h
    exact spliced_more (e_intOf h1 S fun t s' S' => ih h2 S' fun vs s'' hi S'' => k _ _ (.cons i t hi) S'') (intOf_star h1)
theorem rd_ints {vs : List Value} {ks : List Int} (h : IntsAre vs ks) : RdAll g vs (iis ks) := by
  induction h with
  | nil => exact .nil
  | cons n t _ ih => exact .cons (.int n t) ih
theorem ints_rd {vs : List Value} {ks : List Int} : RdAll g vs (iis ks) → IntsAre vs ks := by
  induction ks generalizing vs with
  | nil => intro r; cases r; exact .nil
  | cons k ks ih =>
    intro r
    cases r with
    | cons a b => obtain ⟨t, rfl⟩ := a.int_inv; exact .cons k t (ih b)
theorem e_tupInts {es : List Expr} {k : Nat} {pos : Pos} {ks : List Int} {env : Env} {Q : Value → Shared → Prop} (h : intsOf es = some ks) (hl : ks.length ≤ sizeLine) (S : Sn c g m news s) (q : ∀ a s' g', VSub g g' → Rd g' (.ref a) (.tuple (iis ks)) → Sn c g' m news s' → Q (.ref a) s') :
    wpAny (model prog w) A (eval (.Tuple es k pos) env) Q E s :=
  Tuple_ (spl_ints h S fun vs s' hi S' => r_newTD S' (rd_ints hi) q (by rw [hi.length]; exact hl))
theorem spl_tups {env : Env} {pos : Pos} {es : List Expr} : ∀ {ks : List (List Int)} {s : Shared} {g : Vis} {Q : List Value → Shared → Prop}, tupsOf es = some ks → (∀ l ∈ ks, l.length ≤ sizeLine) → Sn c g m news s →
    (∀ vs s' g', VSub g g' → RdAll g' vs (ks.map fun l => .tuple (iis l)) → Sn c g' m news s' → Q vs s') → wpAny (model prog w) A (spliced (backTo pos (starEach es env))) Q E s := by
  induction es with
  | nil => intro ks s g Q h _ S k; cases Option.some.inj h; exact spliced_none (k _ _ _ (VSub.refl g) .nil S)
  | cons e r ih =>
    intro ks s g Q h hl S k
    unfold tupsOf at h
    rw [List.mapM_cons] at h
    refine bind_ok h fun i h1 h => bind_ok h fun l h2 h => bind_ok h1 fun es h3 h1 => ?_
    cases Option.some.inj h
    obtain ⟨_, _, rfl⟩ := tupV_ok h3
    exact spliced_more (e_tupInts h1 (hl _ (.head _)) S fun a s' g' hv hr S' => ih h2 (fun l hm => hl l (.tail _ hm)) S' fun vs s'' g'' hv' hr' S'' => k _ _ _ (hv.trans hv') (.cons (hr.up hv') hr') S'') rfl
end
end Mine
namespace Mine
section
variable {prog : Program} {w : World} {A : Around} {E : Value → Shared → Prop} {s : Shared}
variable {c : Cx} {g : Vis} {m m' : Loc} {news news' own rest : Led} {d : Nat}
theorem s_lstD {a : Addr} {xs : List PyData} {k : Nat} {t : Tok} {x : PyData} {value slice : Expr} {ops : List Value} {Q : Value → Shared → Prop} (S : Sn c g m news s) (r : Rd g (.ref a) (.list xs)) (hx : xs[k]? = some x) (hfit : k < 2 ^ 62)
    (h : ∀ v, Rd g v x → Q v s) (hs : subscripted slice false (.ref a) (.int k t) = operate ops (getItem (.ref a) (.int k t))) : wpAny (model prog w) A (subscriptTail value slice (.ref a) (.int k t)) Q E s := by
  obtain ⟨_, vs, n, e, hg, hr⟩ := r.lst_inv
  cases e
  obtain ⟨v, hv, hrv⟩ := hr.get' hx
  exact s_lstN S (S.sub _ _ hg) hfit hv (h v hrv) hs
theorem seq_at {n k : Nat} (h : k < n) : seqIndex? (k : Int) n = some k := by
  unfold seqIndex?
  rw [if_neg (Int.not_lt.mpr (Int.natCast_nonneg k))]
  exact if_pos (Bool.and_eq_true_iff.mpr ⟨decide_eq_true (Int.natCast_nonneg k), decide_eq_true (Int.ofNat_lt.mpr h)⟩)
theorem lo_int (k : Nat) : -(2 ^ 63) ≤ (k : Int) := Int.le_trans (by decide) (Int.natCast_nonneg k)
theorem hi_int {k : Nat} (h : k < 2 ^ 62) : (k : Int) < 2 ^ 63 := Int.lt_of_lt_of_le (Int.ofNat_lt.mpr h) (by decide)
theorem s_tupD {a : Addr} {xs : List PyData} {k : Nat} {t : Tok} {x : PyData} {value slice : Expr} {ops : List Value} {Q : Value → Shared → Prop} (S : Sn c g m news s) (r : Rd g (.ref a) (.tuple xs)) (hx : xs[k]? = some x) (hfit : k < 2 ^ 62)
    (h : ∀ v, Rd g v x → Q v s) (hs : subscripted slice false (.ref a) (.int k t) = operate ops (getItem (.ref a) (.int k t))) : wpAny (model prog w) A (subscriptTail value slice (.ref a) (.int k t)) Q E s := by
  obtain ⟨_, vs, n, e, hg, hr⟩ := r.tup_inv
  cases e
  obtain ⟨v, hv, hrv⟩ := hr.get' hx
  have hk : k < vs.length := (List.getElem?_eq_some_iff.mp hv).1
  exact s_tup S hg (lo_int k) (hi_int hfit) (j := k) (seq_at hk) hv (h v hrv) hs
theorem r_lenL {a : Addr} {vs : List Value} {n : Nat} {Q : Value → Shared → Prop} (S : Sn c g m news s) (hg : s.heap.get? a = some { cls := .type "list", data := .seq (List.toArray vs) n }) (hb : vs.length ≤ sizeLine)
    (h : ∀ t s', Sn c g m news s' → Q (.int vs.length t) s') : wpAny (model prog w) A (call (.builtin "len") [.ref a]) Q E s :=
  len_list (items := vs.toArray) ⟨_, hg, rfl, n, rfl⟩ (by simp only [List.size_toArray, sizeLine] at *; lia) (by simpa using h _ _ (S.tick (tk := s.toks + 1 + 1)))
theorem r_lenT {a : Addr} {vs : List Value} {n : Nat} {Q : Value → Shared → Prop} (S : Sn c g m news s) (hg : s.heap.get? a = some { cls := .type "tuple", data := .seq (List.toArray vs) n }) (hb : vs.length ≤ sizeLine)
    (h : ∀ t s', Sn c g m news s' → Q (.int vs.length t) s') : wpAny (model prog w) A (call (.builtin "len") [.ref a]) Q E s :=
  len_tuple (items := vs.toArray) ⟨_, hg, rfl, n, rfl⟩ (by simp only [List.size_toArray, sizeLine] at *; lia) (by simpa using h _ _ (S.tick (tk := s.toks + 1 + 1)))
theorem r_lenLD {a : Addr} {xs : List PyData} {Q : Value → Shared → Prop} (S : Sn c g m news s) (r : Rd g (.ref a) (.list xs)) (hb : xs.length ≤ sizeLine) (h : ∀ t s', Sn c g m news s' → Q (.int xs.length t) s') : wpAny (model prog w) A (call (.builtin "len") [.ref a]) Q E s := by
  obtain ⟨_, vs, n, e, hg, hr⟩ := r.lst_inv
  cases e
  exact r_lenL S (S.sub _ _ hg) (by rw [hr.length]; exact hb) (by rw [hr.length]; exact h)
theorem r_lenTD {a : Addr} {xs : List PyData} {Q : Value → Shared → Prop} (S : Sn c g m news s) (r : Rd g (.ref a) (.tuple xs)) (hb : xs.length ≤ sizeLine) (h : ∀ t s', Sn c g m news s' → Q (.int xs.length t) s') : wpAny (model prog w) A (call (.builtin "len") [.ref a]) Q E s := by
  obtain ⟨_, vs, n, e, hg, hr⟩ := r.tup_inv
  cases e
  exact r_lenT S (S.sub _ _ hg) (by rw [hr.length]; exact hb) (by rw [hr.length]; exact h)
end
end Mine
namespace Mine
section
variable {prog : Program} {w : World} {A : Around} {E : Value → Shared → Prop} {s : Shared}
variable {c : Cx} {g : Vis} {m m' : Loc} {news news' own rest : Led} {d : Nat}
theorem c_isnot_ref {M : Model} {a : Addr} {Q : Value → Shared → Prop} (h : Q (.bool true) s) : wpAny M A (compareOp .IsNot (.ref a) .none) Q E s := isNot_none (by exact h)
theorem c_isnot_none {M : Model} {Q : Value → Shared → Prop} (h : Q (.bool false) s) : wpAny M A (compareOp .IsNot .none .none) Q E s := isNot_none (by exact h)
theorem c_is_ref {M : Model} {a : Addr} {Q : Value → Shared → Prop} (h : Q (.bool false) s) : wpAny M A (compareOp .Is (.ref a) .none) Q E s := is_none (by exact h)
theorem c_is_none {M : Model} {Q : Value → Shared → Prop} (h : Q (.bool true) s) : wpAny M A (compareOp .Is .none .none) Q E s := is_none (by exact h)
theorem c_is_int {M : Model} {i : Int} {t : Tok} {Q : Value → Shared → Prop} (h : Q (.bool false) s) : wpAny M A (compareOp .Is (.int i t) .none) Q E s := is_none (by exact h)
theorem c_isnot_int {M : Model} {i : Int} {t : Tok} {Q : Value → Shared → Prop} (h : Q (.bool true) s) : wpAny M A (compareOp .IsNot (.int i t) .none) Q E s := isNot_none (by exact h)

theorem r_ext {l b : Addr} {vs ws : List Value} {n n2 : Nat} {Q : Value → Shared → Prop} (S : Sn c g m news s) (hm : LMem l (lstO vs n) news) (hb : s.heap.get? b = some (lstO ws n2))
    (h : ∀ n' s', (∀ news', LUp l (lstO vs n) (lstO (vs ++ ws) n') news news' → Sn c g m news' s') → Q .none s') (hsz : vs.length + ws.length ≤ sizeLine) : wpAny (model prog w) A (call (.builtin "list.extend") ([.ref l] ++ [.ref b])) Q E s := by
  have ho := S.at hm
  refine call_meets F.slot_list_extend ⟨_, ho, rfl⟩ F.entry_list_extend (F.args_list_extend_2 _ _) (AutoSeq1.list_extend_list_list_0 l vs.toArray n b ws.toArray n2 (extend_door (by simpa using hsz)) (by simp; lia)) ⟨ho, hb, ?_⟩
  have hn : ∃ n', Obj.mapSeq (fun x => x ++ ws.toArray) (lstO vs n) = lstO (vs ++ ws) n' := by
    unfold Obj.mapSeq
    simp only [List.append_toArray]
    exact ⟨_, rfl⟩
  obtain ⟨n', hn⟩ := hn
  have h3 := Heap.get?_update_self (Obj.mapSeq fun x => x ++ ws.toArray) ho (by rw [hn]; rfl)
  rw [hn] at h3
  exact h n' _ fun news' u => S.chg (tk := s.toks) u (Heap.SameBut.update ..) h3

theorem any_ints (x : Int) : ∀ ks : List Int, (iis ks).any (fun y => PyData.eqv y (.int x)) = decide (x ∈ ks)
  | [] => by simp
  | k :: r => by
    have ih := any_ints x r
    simp only [iis, List.map_cons, List.any_cons] at ih ⊢
    rw [ih]
    simp only [PyData.eqv, List.mem_cons]
    by_cases h : k = x
    · subst h; simp
    · have h' : ¬ x = k := fun e => h e.symm
      simp [h, h']
theorem canLay_ints (ks : List Int) : PyData.canLayAll0 (iis ks) = true := canLayAll0_ints ks
theorem c_inT {tv : Addr} {ks : List Int} {x : Int} {t : Tok} {Q : Value → Shared → Prop} (S : Sn c g m news s) (rm : Rm A d) (r : Rd g (.ref tv) (.tuple (iis ks))) (h : Q (.bool (decide (x ∈ ks))) s) : wpAny (model prog w) A (compareOp .In (.int x t) (.ref tv)) Q E s := by
  obtain ⟨_, q⟩ := r.reads S.sub
  refine in_tuple_reads q (.int x t) (canLay_ints ks) rfl ?_ (by rw [any_ints]; exact h)
  have := rm.units
  simp only [PyData.depth, Nat.min_zero]
  lia
theorem c_inL {tv : Addr} {ks : List Int} {x : Int} {t : Tok} {Q : Value → Shared → Prop} (S : Sn c g m news s) (rm : Rm A d) (r : Rd g (.ref tv) (.list (iis ks))) (h : Q (.bool (decide (x ∈ ks))) s) : wpAny (model prog w) A (compareOp .In (.int x t) (.ref tv)) Q E s := by
  obtain ⟨_, q⟩ := r.reads S.sub
  refine in_list_reads q (.int x t) (canLay_ints ks) rfl ?_ (by rw [any_ints]; exact h)
  have := rm.units
  simp only [PyData.depth, Nat.min_zero]
  lia
theorem part_some {e : Expr} {env : Env} {Q : Value → Shared → Prop} {M : Model} (h : wpAny M A (eval e env) Q E s) : wpAny M A (evalPart (some e) env) Q E s := h
theorem part_none {env : Env} {Q : Value → Shared → Prop} {M : Model} (h : Q .none s) : wpAny M A (evalPart none env) Q E s := wpAny_pure h
/-- x[1:] of a tuple -/
theorem s_from1 {a : Addr} {vs : List Value} {n k : Nat} {p p1 : Pos} {env : Env} {value : Expr} {Q : Value → Shared → Prop} (S : Sn c g m news s) (hg : s.heap.get? a = some { cls := .type "tuple", data := .seq (List.toArray vs) n }) (h1 : 1 ≤ vs.length) (hsz : vs.length ≤ sizeLine)
    (h : ∀ r s', c.n₀ ≤ r → Sn c g m ((r, tupO (vs.drop 1)) :: news) s' → Q (.ref r) s') (hgo : ∀ r, letTemporaryGo value (.ref a) r = pure ()) :
    wpAny (model prog w) A (eval (.Slice (some (.Constant (.int 1) k p1)) none none p) env) (fun i s₂ => wpAny (model prog w) A (subscriptTail value (.Slice (some (.Constant (.int 1) k p1)) none none p) (.ref a) i) Q E s₂) E s := by
  refine wpAny_Slice (part_some (wpAny_Constant_int (part_none (part_none ?_))))
  have S1 : Sn c g m news { s with toks := s.toks + 1 } := S.tick
  refine slice_tuple_from (s := { s with toks := s.toks + 1 }) (a := 1) S1.fr.1 S1.fr.2 (items := vs.toArray) ⟨_, hg, rfl, n, rfl⟩ (Nat.le_refl _) (by simpa using h1) (fun h' F N => ?_) (by with_unfolding_all rfl) hgo (by simpa using hsz)
  have := S1.ofFr1 (tk := s.toks + 1) (Nat.le_succ _) F N
  simp only [List.toList_toArray] at this
  exact h _ _ (Nat.le_trans S.sz (Nat.le_succ _)) this
end
end Mine
namespace Mine
theorem Sn.see {c : Cx} {g : Vis} {m : Loc} {news : Led} {s : Shared} (S : Sn c g m news s) {a : Addr} {o : Obj} (h : g a = some o) : s.heap.get? a = some o := S.sub a o h
end Mine

-- MMore
namespace Mine
section
variable {prog : Program} {w : World} {A : Around} {E : Value → Shared → Prop} {s : Shared}
variable {c : Cx} {g : Vis} {m m' : Loc} {news news' own rest : Led} {d : Nat}
/-- x[0] of a tuple of ints -/
theorem s_tup0 {a : Addr} {x : Int} {l : List Int} {t : Tok} {value slice : Expr} {ops : List Value} {Q : Value → Shared → Prop} (S : Sn c g m news s) (r : Rd g (.ref a) (.tuple (iis (x :: l)))) (h : ∀ t', Q (.int x t') s)
    (hs : subscripted slice false (.ref a) (.int 0 t) = operate ops (getItem (.ref a) (.int 0 t))) : wpAny (model prog w) A (subscriptTail value slice (.ref a) (.int 0 t)) Q E s :=
  s_tupD (k := 0) S r (x := .int x) rfl (by decide) (fun v hv => by obtain ⟨t', rfl⟩ := hv.int_inv; exact h t') hs
/-- x[1] of a tuple of ints -/
theorem s_tup1 {a : Addr} {x y : Int} {l : List Int} {t : Tok} {value slice : Expr} {ops : List Value} {Q : Value → Shared → Prop} (S : Sn c g m news s) (r : Rd g (.ref a) (.tuple (iis (x :: y :: l)))) (h : ∀ t', Q (.int y t') s)
    (hs : subscripted slice false (.ref a) (.int 1 t) = operate ops (getItem (.ref a) (.int 1 t))) : wpAny (model prog w) A (subscriptTail value slice (.ref a) (.int 1 t)) Q E s :=
  s_tupD (k := 1) S r (x := .int y) rfl (by decide) (fun v hv => by obtain ⟨t', rfl⟩ := hv.int_inv; exact h t') hs
theorem ints_snoc' {vs : List Value} {ks : List Int} {k : Int} {t : Tok} (h : IntsAre vs ks) : IntsAre (vs ++ [.int k t]) (ks ++ [k]) := h.append (.cons _ _ .nil)
end
end Mine
namespace Mine
section
variable {M : Model} {A : Around} {E : Value → Shared → Prop} {s : Shared}
theorem t_last {pos : Pos} {a : Value} {op : CmpOp} {r : Sem Value} {env : Env} {Q : Bool → Shared → Prop} (h : wpAny M A r (fun b s₁ => wpAny M A (compareOp op a b) (fun c s₂ => wpAny M A (truthy c) Q E s₂) E s₁) E s) : wpAny M A (testChain pos a [op] (r :: evalEach [] env)) Q E s := test_last h
theorem ch_last {pos : Pos} {a : Value} {op : CmpOp} {r : Sem Value} {env : Env} {Q : Value → Shared → Prop} (h : wpAny M A r (fun b s₁ => wpAny M A (compareOp op a b) Q E s₁) E s) : wpAny M A (compareChain pos a [op] (r :: evalEach [] env)) Q E s := chain_last h
end
end Mine
namespace Mine
section
variable {prog : Program} {w : World} {A : Around} {E : Value → Shared → Prop} {s : Shared}
variable {c : Cx} {g : Vis} {m m' : Loc} {news news' own rest : Led} {d : Nat}
theorem s_tup0G {a : Addr} {x : PyData} {l : List PyData} {t : Tok} {value slice : Expr} {ops : List Value} {Q : Value → Shared → Prop} (S : Sn c g m news s) (r : Rd g (.ref a) (.tuple (x :: l))) (h : ∀ v, Rd g v x → Q v s)
    (hs : subscripted slice false (.ref a) (.int 0 t) = operate ops (getItem (.ref a) (.int 0 t))) : wpAny (model prog w) A (subscriptTail value slice (.ref a) (.int 0 t)) Q E s :=
  s_tupD (k := 0) S r (x := x) rfl (by decide) h hs
theorem s_tup1G {a : Addr} {x y : PyData} {l : List PyData} {t : Tok} {value slice : Expr} {ops : List Value} {Q : Value → Shared → Prop} (S : Sn c g m news s) (r : Rd g (.ref a) (.tuple (x :: y :: l))) (h : ∀ v, Rd g v y → Q v s)
    (hs : subscripted slice false (.ref a) (.int 1 t) = operate ops (getItem (.ref a) (.int 1 t))) : wpAny (model prog w) A (subscriptTail value slice (.ref a) (.int 1 t)) Q E s :=
  s_tupD (k := 1) S r (x := y) rfl (by decide) h hs
end
end Mine

-- MRead
namespace Mine
-- data that lies in the top
noncomputable def clsV : Value → Option String
  | .type c => some c
  | _ => none
noncomputable def datV : Data → Option (List Value × Nat)
  | .seq vs n => some (vs.toList, n)
  | _ => none
noncomputable def vwV : Value → Option (Int ⊕ Addr)
  | .ref a => some (.inr a)
  | .int i _ => some (.inl i)
  | _ => none
noncomputable def seqV (o : Obj) : Option (String × List Value) := (clsV o.cls).bind fun c => (datV o.data).bind fun d => if o.dict = none ∧ o.slots.toList.length = 0 then some (c, d.1) else none
noncomputable def mkSeq (c : String) (xs : List PyData) : Option PyData := if c = "tuple" then some (.tuple xs) else if c = "list" then some (.list xs) else none
noncomputable def readK (K : Frag) : Nat → Value → Option PyData
  | 0, _ => none
  | n + 1, v => (vwV v).bind fun q => q.elim (fun i => some (.int i)) fun a => (K.lookup a).bind fun o => (seqV o).bind fun p => (p.2.mapM (readK K n)).bind (mkSeq p.1)
noncomputable def readsK (K : Frag) (n : Nat) (vs : List Value) : Option (List PyData) := vs.mapM (readK K n)
theorem clsV_ok {v : Value} {c : String} (h : clsV v = some c) : v = .type c := by cases v <;> first | exact nn h | exact congrArg Value.type (Option.some.inj h)
theorem datV_ok {d : Data} {p : List Value × Nat} (h : datV d = some p) : d = .seq p.1.toArray p.2 := by cases d <;> first | exact nn h | (cases Option.some.inj h; rfl)
theorem vwV_ok {v : Value} {q : Int ⊕ Addr} (h : vwV v = some q) : (∃ i t, v = .int i t ∧ q = .inl i) ∨ ∃ a, v = .ref a ∧ q = .inr a := by cases v <;> first | exact nn h | exact .inr ⟨_, rfl, (Option.some.inj h).symm⟩ | exact .inl ⟨_, _, rfl, (Option.some.inj h).symm⟩
theorem obj_eq {o : Obj} {c : Value} {d : Data} (e1 : o.cls = c) (e2 : o.data = d) (e3 : o.dict = none ∧ o.slots.toList.length = 0) : o = { cls := c, data := d } := by
  obtain ⟨cls, dict, data, ⟨l⟩⟩ := o
  obtain ⟨e3, e4⟩ := e3
  cases e1; cases e2; cases e3; cases List.eq_nil_of_length_eq_zero e4; rfl
theorem seqV_ok {o : Obj} {p : String × List Value} (h : seqV o = some p) : ∃ n, o = { cls := .type p.1, data := .seq p.2.toArray n } :=
  bind_ok h fun _ h1 h => bind_ok h fun d h2 h => if_ok h fun q e => ⟨d.2, by rw [← e]; exact obj_eq (clsV_ok h1) (datV_ok h2) q⟩
theorem mapM_ok {g : Vis} {f : Value → Option PyData} (H : ∀ v d, f v = some d → Rd g v d) {vs : List Value} : ∀ {xs : List PyData}, vs.mapM f = some xs → RdAll g vs xs := by
  induction vs with
  | nil => intro xs h; cases Option.some.inj h; exact .nil
  | cons v r ih =>
    intro xs h
    rw [List.mapM_cons] at h
    refine bind_ok h fun x h1 h => bind_ok h fun ys h2 h => ?_
    cases Option.some.inj h
    exact .cons (H _ _ h1) (ih h2)
theorem mkSeq_ok {g : Vis} {a : Addr} {c : String} {vs : List Value} {n : Nat} {xs : List PyData} {d : PyData} (h : mkSeq c xs = some d) (e : g a = some { cls := .type c, data := .seq vs.toArray n }) (r : RdAll g vs xs) : Rd g (.ref a) d := by
  unfold mkSeq at h
  by_cases q : c = "tuple"
  · rw [if_pos q] at h; cases Option.some.inj h; cases q; exact .tup e r
  · rw [if_neg q] at h
    refine if_ok h fun q e' => ?_
    cases e'; cases q; exact .lst e r
theorem readK_ok {K : Frag} {g : Vis} (hg : ∀ a o, K.lookup a = some o → g a = some o) (n : Nat) : ∀ (v : Value) (d : PyData), readK K n v = some d → Rd g v d := by
  induction n with
  | zero => intro v d h; exact nn h
  | succ n ih =>
    intro v d h
    refine bind_ok h fun q hq h => ?_
    rcases vwV_ok hq with ⟨i, t, rfl, rfl⟩ | ⟨a, rfl, rfl⟩
    · cases Option.some.inj h; exact .int _ _
    · exact bind_ok h fun o h1 h => bind_ok h fun p h2 h => bind_ok h fun xs h3 h => (seqV_ok h2).elim fun m e => mkSeq_ok h (hg _ _ (e ▸ h1)) (mapM_ok ih h3)
theorem readsK_ok {K : Frag} {g : Vis} (hg : ∀ a o, K.lookup a = some o → g a = some o) (n : Nat) (vs : List Value) (xs : List PyData) (h : readsK K n vs = some xs) : RdAll g vs xs := mapM_ok (readK_ok hg n) h
theorem Sn.rdTop {c : Cx} {g : Vis} {m : Loc} {news : Led} {s : Shared} {w : World} (S : Sn c g m news s) (T : Tp w c.G0) {n : Nat} {v : Value} {d : PyData} (h : readK (KK w.params) n v = some d) : Rd g v d :=
  readK_ok (fun a o e => S.gtop (T.K a o e)) n v d h
end Mine

-- MDict
namespace Mine
noncomputable abbrev intDictO (l : List (Int × Tok × Value)) (n : Nat) : Obj := { cls := .type "dict", data := .dict (l.map fun x => iE x.1 x.2.1 x.2.2).toArray n }
theorem intDict {prog : Program} {w : World} {l : List (Int × Tok × Value)} {n : Nat} (hn : (l.map (·.1)).Nodup) (hh : ∀ x ∈ l, x.1 = hashInt x.1) : (intDictO l n).IsDictOf (intKind prog w) (l.map fun x => (x.1, x.2.2)) := by
  refine ⟨_, _, ⟨rfl, rfl, rfl⟩, rfl, fun e he => ?_, ?_, ?_⟩
  · simp only [List.mem_toArray, List.mem_map] at he
    obtain ⟨x, hx, rfl⟩ := he
    exact ⟨x.1, by show Value.isInt x.1 (.int x.1 x.2.1) = true; simp [Value.isInt], hh x hx⟩
  · simp only [List.toList_toArray]
    clear hn hh
    induction l with
    | nil => exact .nil
    | cons x r ih => exact .cons (by show Value.isInt x.1 (.int x.1 x.2.1) = true; simp [Value.isInt]) rfl ih
  · simpa [Function.comp_def] using hn
section
variable {prog : Program} {w : World} {A : Around} {E : Value → Shared → Prop} {s : Shared}
variable {c : Cx} {g : Vis} {m : Loc} {news : Led}
theorem c_inD {d : Addr} {o : Obj} {kvs : List (Int × Value)} {x : Int} {t : Tok} {Q : Value → Shared → Prop} (S : Sn c g m news s) (ho : s.heap.get? d = some o) (hd : o.IsDictOf (intKind prog w) kvs) (hs : (d == sysModules) = false)
    (h : ∀ s', Sn c g m news s' → Q (.bool (valueAt kvs x).isSome) s') : wpAny (model prog w) A (compareOp .In (.int x t) (.ref d)) Q E s := by
  have hD : s.heap.DictOf (intKind prog w) d kvs := Heap.dictOf_iff.mpr ⟨_, ho, hd⟩
  exact wpAny_in_of (knd := intKind prog w) (k := x) (by show Value.isInt x (.int x t) = true; simp [Value.isInt]) hs hD.mapOf (h _ S.tick)
theorem s_dictI {d : Addr} {o : Obj} {kvs : List (Int × Value)} {x : Int} {t : Tok} {v : Value} {value slice : Expr} {ops : List Value} {Q : Value → Shared → Prop} (S : Sn c g m news s) (ho : s.heap.get? d = some o) (hd : o.IsDictOf (intKind prog w) kvs) (hv : valueAt kvs x = some v)
    (h : ∀ s', Sn c g m news s' → Q v s') (hs : subscripted slice false (.ref d) (.int x t) = operate ops (getItem (.ref d) (.int x t))) : wpAny (model prog w) A (subscriptTail value slice (.ref d) (.int x t)) Q E s := by
  have hD : s.heap.DictOf (intKind prog w) d kvs := Heap.dictOf_iff.mpr ⟨_, ho, hd⟩
  exact tail_any hD.mapOf.typeIs slot_dict_getitem.lookup (wpAny_getItem_of (knd := intKind prog w) (k := x) (by show Value.isInt x (.int x t) = true; simp [Value.isInt]) hD.mapOf hv (h _ S.tick)) hs
end
end Mine
namespace Mine
theorem valueAt_rd {g : Vis} {kvs : List (Int × Value)} : ∀ {ds : List (Int × PyData)}, kvs.map (·.1) = ds.map (·.1) → RdAll g (kvs.map (·.2)) (ds.map (·.2)) → ∀ x, (valueAt kvs x = none ∧ ds.find? (fun d => d.1 == x) = none) ∨ ∃ v d, valueAt kvs x = some v ∧ ds.find? (fun d => d.1 == x) = some (x, d) ∧ Rd g v d := by
  induction kvs with
  | nil => intro ds h _ x; cases ds with | nil => exact .inl ⟨rfl, rfl⟩ | cons _ _ => cases h
  | cons p r ih =>
    intro ds h hr x
    cases ds with
    | nil => cases h
    | cons q ds =>
      obtain ⟨k, v⟩ := p
      obtain ⟨k', d⟩ := q
      have h0 : k = k' := (List.cons.inj h).1
      subst h0
      cases hr with | cons h1 h2 =>
      by_cases e : k = x
      · subst e; exact .inr ⟨v, d, by simp [valueAt], by simp, h1⟩
      · have e1 : valueAt ((k, v) :: r) x = valueAt r x := by simp [valueAt, e]
        have e2 : ((k, d) :: ds).find? (fun d => d.1 == x) = ds.find? (fun d => d.1 == x) := List.find?_cons_of_neg (by simpa using e)
        rw [e1, e2]; exact ih (List.cons.inj h).2 h2 x
end Mine

-- MObj
namespace Mine
section
variable {w : World} {A : Around} {E : Value → Shared → Prop} {s : Shared}
variable {c : Cx} {g : Vis} {m m' : Loc} {news news' own rest : Led} {d : Nat}
theorem instAt {x C dx : Addr} {es : List DictEntry} {n : Nat} (h1 : s.heap.get? x = some (instObj C dx)) (h2 : s.heap.get? dx = some (dictOf es n)) : InstAt s.heap x (instObj C dx) C (some (dictOf es n)) := ⟨h1, rfl, rfl, h2⟩
/-- an own attribute of an object -/
theorem o_get {x C dx : Addr} {es : List DictEntry} {n : Nat} {name : Str} {attr : Option Value} {v : Value} {ex : Bool} {Q : Value → Shared → Prop} (S : Sn c g m news s) (T : Tp w c.G0) (h1 : s.heap.get? x = some (instObj C dx)) (h2 : s.heap.get? dx = some (dictOf es n))
    (hg : plainGet (KK w.params) C name = true) (hh : hasDictIn (KK w.params) C = true) (ha : findIn (KK w.params) (.ref C) name = some attr) (hn : noGet (KK w.params) attr = true) (hl : getL name es = some (some v)) (hv : handedIn v = true)
    (h : ∀ s', Sn c g m news s' → Q v s') : wpAny (model pw w) A (getAttr (.ref x) name ex) Q E s :=
  get_own S.fr.1 T.K (instAt h1 h2) hg hh ha hn hl hv (h _ S.tick)
/-- a method of an object -/
theorem o_meth {x C dx f : Addr} {es : List DictEntry} {n : Nat} {name : Str} {pl : Sem Bool} {Q : Value × List Value → Shared → Prop} (S : Sn c g m news s) (T : Tp w c.G0) (h1 : s.heap.get? x = some (instObj C dx)) (h2 : s.heap.get? dx = some (dictOf es n))
    (hg : plainGet (KK w.params) C name = true) (hf : findIn (KK w.params) (.ref C) name = some (some (.ref f))) (ht : isFn (KK w.params) (.ref f) = true) (hl : getL name es = some none) (h : Q (.ref f, [.ref x]) s) : wpAny (model pw w) A (getMethod (.ref x) name pl) Q E s :=
  method_inst S.fr.1 T.K (instAt h1 h2) hg hf ht hl h
end
end Mine
namespace Mine
/-- the contract of a call, as code -/
noncomputable def CtC (prog : Program) (w : World) (G0 : Heap) (d : Nat) (f : Value) (args : List Value) (g : Vis) (own : Led) (P : Value → Vis → Led → Prop) : Prop :=
  ∀ (A : Around) (s : Shared) (R : Result → Shared → Prop), Rm A d → Vw G0 s.heap g own → G0.objs.size ≤ s.heap.objs.size → (∀ v s', Out s g (own.map (·.1)) P v s' → R (.ok (.ret v)) s') → codeAny (model prog w) A (.call f ⟨args, []⟩) R s
theorem CtC.ct {prog : Program} {w : World} {G0 : Heap} {d : Nat} {f : Value} {args : List Value} {g : Vis} {own : Led} {P : Value → Vis → Led → Prop} (h : CtC prog w G0 d f args g own P) : Ct prog w G0 d f args g own P :=
  fun A s E r V z => wpAny_call (h A s (fun r s' => match r with | .ok (.ret v) => Out s g (own.map (·.1)) P v s' | .ok _ => False | .error e => E e s') r V z fun _ _ o => o)
theorem entK {prog : Program} {w : World} {G0 : Heap} {gls : List (Str × Value)} {g : Vis} {f : Addr} {o : Obj} {fd : FuncData} {body : List Stmt} {args : List Value} {binds : List (Str × Value)} {rest : List Str} {own : Led} {d : Nat} {m : Loc} {P : Value → Vis → Led → Prop}
    (ho : G0.get? f = some o) (hd : o.data = .func fd) (hlim : G0.NoLimit) (hcd : G0.CodeRec fd.code fd.qualname) (hbody : fd.body = .stmts body)
    (hgl : fd.globals = mainGlobals) (hbl : fd.builtins = builtinsNs) (hbind : ∀ s : Shared, (∀ b o', G0.get? b = some o' → s.heap.get? b = some o') → BindsTo s fd ⟨args, []⟩ binds) (hm : m = m0 binds rest) (hok : namesOk fd.scope (names m) gls = true) (gb : Glb G0 gls)
    (h : ∀ c s₁ A, Rm A d → c.G0 = G0 → c.gls = gls → (∃ L, c.env = callEnv fd L f) → Ente c g (own.map (·.1)) → Sn c g m own s₁ → wpAny (model prog w) A (execs body c.env) (RetQ c g (own.map (·.1)) P) (fun _ _ => False) s₁) :
    CtC prog w G0 (d + 1) (.ref f) args g own P := by
  intro A s R r V z k
  refine enter (gls := gls) r V ho hd hlim hcd hbody hgl hbl (hbind s fun b o' e => V.sub _ _ (V.gg _ _ e)) hm hok gb ?_
  intro x h₁ tk he en S
  have := h ⟨x.env, x.h₀, x.g₀, x.n₀, G0, gls, s⟩ { s with heap := h₁, toks := tk } (A.deeper x.env) r.deeper rfl rfl ⟨_, he⟩ ⟨en.g₀, en.n₀, en.h₀⟩ ⟨S, rfl, by show G0.objs.size ≤ x.n₀; rw [en.n₀]; exact z⟩
  exact wpAny_mono this (fun fl s' o => k _ _ o) fun _ _ q => q
section
variable {w : World} {A : Around} {E : Value → Shared → Prop} {s : Shared}
variable {c : Cx} {g : Vis} {m m' : Loc} {news news' own rest : Led} {d : Nat}
/-- a property that a contract knows -/
theorem o_prop {x C dx p fget : Addr} {es : List DictEntry} {n : Nat} {rs : List Value} {name : Str} {ex : Bool} {P : Value → Vis → Led → Prop} {Q : Value → Shared → Prop} (S : Sn c g m news s) (r : Rm A (d + 1)) (T : Tp w c.G0) (h1 : s.heap.get? x = some (instObj C dx)) (h2 : s.heap.get? dx = some (dictOf es n))
    (hg : plainGet (KK w.params) C name = true) (hh : hasDictIn (KK w.params) C = true) (ha : findIn (KK w.params) (.ref C) name = some (some (.ref p))) (hn : specialIn (KK w.params) (.ref p) "__get__" = some (some (.builtin "property.__get__"))) (ht : takesIn (KK w.params) (.ref p) = some true) (hp : recIn (KK w.params) p "property" = some (.ref fget :: rs))
    (hpk : Pick own news rest) (hf : CtC pw w c.G0 d (.ref fget) [.ref x] g own P)
    (h : ∀ v s' g' own', Sn c g' m (own' ++ rest) s' → VSub g g' → own'.map (·.1) = own.map (·.1) → P v g' own' → wpAny (model pw w) A (handedOut v) Q E s') : wpAny (model pw w) A (getAttr (.ref x) name ex) Q E s := by
  have S0 : Sn c g m news { s with toks := s.toks + 1 } := S.tick
  refine get_prop S.fr.1 T.K (instAt h1 h2) hg hh ha hn ht hp ?_
  have S1 := S0.perm hpk.perm
  refine hf A.in1 _ _ r.in1 S1.st.vw (Nat.le_trans S1.gz S1.sz) fun v s' o => ?_
  obtain ⟨h', tk, g', own', e, S', hv, hp'⟩ := S1.st.out (o.imp (P' := fun v g' own' => P v g' own' ∧ own'.map (·.1) = own.map (·.1)) fun v g' own' q _ p => ⟨p, q⟩)
  subst e
  exact h v _ g' own' (S1.to S') hv hp'.2 hp'.1
end
end Mine
namespace Mine
theorem tc_weight (C : Addr) (rest : List Value) (kw : List (Str × Value)) : Code.weight (.builtin "type.__call__" ⟨.ref C :: rest, kw⟩) = 1 := by kernel_rfl
theorem tc_units (args : Args) : Code.cUnits (.builtin "type.__call__" args) = 1 + 3 * (Code.builtin "type.__call__" args).frames := rfl
theorem tc_frames (C : Addr) (rest : List Value) (kw : List (Str × Value)) : (Code.builtin "type.__call__" ⟨.ref C :: rest, kw⟩).frames = 0 := by kernel_rfl
theorem Rm.under {A : Around} {d : Nat} {C : Addr} {rest : List Value} {kw : List (Str × Value)} (r : Rm A (d + 1)) : Rm (A.under (.builtin "type.__call__" ⟨.ref C :: rest, kw⟩)) d :=
  ⟨r.hd, by have := r.dp; show A.depth + Code.weight (.builtin "type.__call__" ⟨.ref C :: rest, kw⟩) + 2 * d < 900; rw [tc_weight]; lia,
    by have := r.un; show A.units + Code.cUnits (.builtin "type.__call__" ⟨.ref C :: rest, kw⟩) + 16 * d < 9000; rw [tc_units]; rw [tc_frames]; lia⟩
end Mine
namespace Mine
section
variable {w : World} {A : Around} {E : Value → Shared → Prop} {s : Shared}
variable {c : Cx} {g : Vis} {m m' : Loc} {news news' own rest : Led} {d : Nat}
/-- an object is made -/
theorem o_make {C fI : Addr} {args : List Value} {P : Addr → Addr → Value → Vis → Led → Prop} {Q : Value → Shared → Prop} (S : Sn c g m news s) (r : Rm A (d + 1)) (T : Tp w c.G0) (hm : makesIn (KK w.params) C = true)
    (hi : findIn (KK w.params) (.ref C) "__init__" = some (some (.ref fI))) (hf : typeIn (KK w.params) (.ref fI) = some (.type "function"))
    (hc : ∀ x dx g', VSub g g' → g' x = some (instObj C dx) → CtC pw w c.G0 d (.ref fI) (.ref x :: args) g' [(dx, emptyDict)] (P x dx)) (hP : ∀ x dx v g' own', P x dx v g' own' → v = .none)
    (h : ∀ x dx s' g' own', c.n₀ ≤ dx → Sn c g' m (own' ++ news) s' → VSub g g' → g' x = some (instObj C dx) → own'.map (·.1) = [dx] → P x dx .none g' own' → Q (.ref x) s') : wpAny (model pw w) A (call (.ref C) args) Q E s := by
  have XK : (KK w.params).In s.heap := fun a o e => S.top (T.K a o e)
  refine wpAny_call ?_
  have S0 := S
  obtain ⟨hh, gg, dd, t, os⟩ := s
  refine make_core (makes_of XK hm) (looks_findIn XK hi) (fun self => bind_fn XK self hf) (.inl rfl) ?_
  have S1 := S0.push (tk := t) (o := emptyDict) rfl
  have S2 := S1.push (tk := t) (o := instObj C hh.objs.size) rfl
  have hsz : (hh.push emptyDict).objs.size = hh.objs.size + 1 := Heap.size_push ..
  have S2' : Sn c g m ((hh.objs.size + 1, instObj C hh.objs.size) :: (hh.objs.size, emptyDict) :: news) ⟨(hh.push emptyDict).push (instObj C hh.objs.size), gg, dd, t, os⟩ := by
    have := S2
    simp only [hsz] at this
    exact this
  obtain ⟨g', hv, hg', S3⟩ := S2'.lock .hd (Nat.le_trans S0.sz (Nat.le_succ _))
  have S4 : Sn c g' m ([(hh.objs.size, emptyDict)] ++ news) _ := S3
  refine hc (hh.objs.size + 1) hh.objs.size g' hv hg' _ _ _ r.under S4.st.vw (Nat.le_trans S4.gz S4.sz) fun v s' o => ?_
  obtain ⟨h', tk, g2, own', e, S', hv2, hp'⟩ := S4.st.out (o.imp (P' := fun v g' own' => P _ _ v g' own' ∧ own'.map (·.1) = [hh.objs.size]) fun v g' own' q _ p => ⟨p, q⟩)
  subst e
  have hvn := hP _ _ _ _ _ hp'.1
  subst hvn
  exact ⟨rfl, h _ _ _ g2 own' S0.sz (S4.to S') (hv.trans hv2) (hv2 _ _ hg') hp'.2 hp'.1⟩
end
end Mine

-- MO2
namespace Mine
noncomputable def clsB (K : Frag) (C : Addr) : Bool := findIn K (.ref C) "__setattr__" == some (some (.builtin "object.__setattr__")) && plainOver K C && hasDictIn K C && plainGet K C ""
noncomputable def fldB (K : Frag) (C : Addr) (name : Str) : Bool := findIn K (.ref C) name == some none && takerIn K C name == some none
theorem clsB_of {K : Frag} {C : Addr} (h : clsB K C = true) : findIn K (.ref C) "__setattr__" = some (some (.builtin "object.__setattr__")) ∧ plainOver K C = true ∧ hasDictIn K C = true ∧ ∀ n, plainGet K C n = true := by
  unfold clsB at h
  simp only [Bool.and_eq_true, beq_iff_eq] at h
  exact ⟨h.1.1.1, h.1.1.2, h.1.2, fun _ => h.2⟩
theorem fldB_of {K : Frag} {C : Addr} {n : Str} (h : fldB K C n = true) : findIn K (.ref C) n = some none ∧ takerIn K C n = some none := by
  unfold fldB at h
  simpa only [Bool.and_eq_true, beq_iff_eq] using h
theorem upd_of {d : Addr} {o o' : Obj} : ∀ {l : Led}, (d, o) ∈ l → (l.map (·.1)).Nodup → Upd d o o' l (l.map fun p => if p.1 = d then (d, o') else p)
  | p :: r, hm, nd => by
    have nd' := List.nodup_cons.mp nd
    have out : ∀ q ∈ r, q.1 ≠ p.1 := fun q hq z => nd'.1 (by show p.1 ∈ _; rw [← z]; exact List.mem_map_of_mem (f := (·.1)) hq)
    rcases List.mem_cons.mp hm with rfl | hm
    · have e : r.map (fun p => if p.1 = d then (d, o') else p) = r := by
        conv => rhs; rw [← List.map_id r]
        exact List.map_congr_left fun p hp => if_neg (out p hp)
      rw [List.map_cons, if_pos rfl, e]
      exact .head out
    · have ne : p.1 ≠ d := fun q => out _ hm q.symm
      rw [List.map_cons, if_neg ne]
      exact .tail ne (upd_of hm nd'.2)
theorem fm_sub {α β : Type} {f : α → Option (α × β)} (h : ∀ a p, f a = some p → p.1 = a) : ∀ l : List α, ((l.filterMap f).map (·.1)).Sublist l
  | [] => List.Sublist.refl _
  | x :: r => by
    rw [List.filterMap_cons]
    cases e : f x with
    | none => exact (fm_sub h r).cons x
    | some p => rw [List.map_cons, h x p e]; exact (fm_sub h r).cons_cons x
theorem allObs_nodup {G0 : Heap} {L : Addr} {h : Heap} : ((allObs G0 L h).map (·.1)).Nodup := by
  refine List.Nodup.sublist (fm_sub (fun a p hp => ?_) _) List.nodup_range
  split at hp
  · cases hp
  · obtain ⟨o, _, rfl⟩ := Option.map_eq_some_iff.mp hp; rfl
section
variable {w : World} {A : Around} {E : Value → Shared → Prop} {s : Shared}
variable {c : Cx} {g : Vis} {m m' : Loc} {news news' own rest : Led} {d : Nat}
theorem o_get' {x C dx : Addr} {es : List DictEntry} {n : Nat} {name : Str} {v : Value} {ex : Bool} {Q : Value → Shared → Prop} (S : Sn c g m news s) (T : Tp w c.G0) (h1 : s.heap.get? x = some (instObj C dx)) (h2 : s.heap.get? dx = some (dictOf es n))
    (hc : clsB (KK w.params) C = true) (hf : fldB (KK w.params) C name = true) (hl : getL name es = some (some v)) (hv : handedIn v = true) (h : ∀ s', Sn c g m news s' → Q v s') : wpAny (model pw w) A (getAttr (.ref x) name ex) Q E s :=
  let ⟨_, _, c3, c4⟩ := clsB_of hc
  get_own (attr := none) S.fr.1 T.K (instAt h1 h2) (c4 name) c3 (fldB_of hf).1 rfl hl hv (h _ S.tick)
/-- an own attribute, the dict in the ledger or in what is seen -/
theorem o_getD {x C dx : Addr} {es : List DictEntry} {n : Nat} {name : Str} {v : Value} {ex : Bool} {Q : Value → Shared → Prop} (S : Sn c g m news s) (T : Tp w c.G0) (h1 : g x = some (instObj C dx)) (h2 : LMem dx (dictOf es n) news)
    (hc : clsB (KK w.params) C = true) (hf : fldB (KK w.params) C name = true) (hl : getL name es = some (some v)) (hv : handedIn v = true) (h : ∀ s', Sn c g m news s' → Q v s') : wpAny (model pw w) A (getAttr (.ref x) name ex) Q E s :=
  o_get' S T (S.see h1) (S.at h2) hc hf hl hv h
theorem o_getG {x C dx : Addr} {es : List DictEntry} {n : Nat} {name : Str} {v : Value} {ex : Bool} {Q : Value → Shared → Prop} (S : Sn c g m news s) (T : Tp w c.G0) (h1 : g x = some (instObj C dx)) (h2 : g dx = some (dictOf es n))
    (hc : clsB (KK w.params) C = true) (hf : fldB (KK w.params) C name = true) (hl : getL name es = some (some v)) (hv : handedIn v = true) (h : ∀ s', Sn c g m news s' → Q v s') : wpAny (model pw w) A (getAttr (.ref x) name ex) Q E s :=
  o_get' S T (S.see h1) (S.see h2) hc hf hl hv h
theorem o_setD {x C dx : Addr} {es : List DictEntry} {n : Nat} {name : Str} {v : Value} {Q : Unit → Shared → Prop} (S : Sn c g m news s) (T : Tp w c.G0) (h1 : g x = some (instObj C dx)) (h2 : LMem dx (dictOf es n) news)
    (hc : clsB (KK w.params) C = true) (hf : fldB (KK w.params) C name = true) (hl : (getL name es).isSome = true) (hz : es.length ≤ 100)
    (h : ∀ tk s', (∀ news', LUp dx (dictOf es n) (dictOf (putL name (PyData.keyHash w.params name) (.str name tk) v es) (putN name es n)) news news' → Sn c g m news' s') → Q () s') : wpAny (model pw w) A (setAttr (.ref x) name v) Q E s := by
  obtain ⟨c1, c2, c3, c4⟩ := clsB_of hc
  have hD := S.at h2
  have nL : dx ≠ c.env.locals := fun e => (List.nodup_cons.mp S.st.dj).1 (e ▸ List.mem_append_right _ (List.mem_map_of_mem (f := (·.1)) h2.mem))
  have nG : c.G0.get? dx = none := by
    cases q : c.G0.get? dx with
    | none => rfl
    | some o => have := S.gtop q; rw [S.none h2] at this; cases this
  have hm : (dx, dictOf es n) ∈ allObs c.G0 c.env.locals s.heap := mem_allObs.mpr ⟨hD, nL, nG⟩
  have hlen : ∀ (key : Value) (l : List DictEntry) (b : Int), l.length ≤ 100 → (putL name b key v l).length ≤ 1000 := fun key l b hl' => by
    have : ∀ l : List DictEntry, (putL name b key v l).length ≤ l.length + 1 := fun l => by
      induction l with
      | nil => simp [putL]
      | cons e r ih => unfold putL; split <;> simp; omega
    have := this l; omega
  refine set_dict S.fr.1 T.K S.fr.2 (instAt (S.see h1) hD) rfl c1 c2 (fldB_of hf).2 c3 hl rfl (upd_of hm allObs_nodup) (hlen _ _ _ hz) fun h' F N => ?_
  refine h (s.toks + 1) _ fun news' u => ?_
  obtain ⟨r, p1, p2⟩ := u.split
  have S1 := S.perm p1
  have hk : ∀ b o, s.heap.get? b = some o → b ≠ c.env.locals → b ∉ [dx] → h'.get? b = some o := fun b o e n nd => by
    cases q : c.G0.get? b with
    | none =>
      exact (N (b, o) (List.mem_map.mpr ⟨(b, o), mem_allObs.mpr ⟨e, n, q⟩, if_neg fun (z : b = dx) => nd (List.mem_singleton.mpr z)⟩)).1
    | some o' => have := S.top q; rw [e] at this; cases this; exact F.keep _ _ q
  have hdx : h'.get? dx = some (dictOf (putL name (PyData.keyHash w.params name) (.str name (s.toks + 1)) v es) (putN name es n)) :=
    (N _ (List.mem_map.mpr ⟨(dx, dictOf es n), hm, if_pos rfl⟩)).1
  have S2 : Sn c g m ([(dx, dictOf (putL name (PyData.keyHash w.params name) (.str name (s.toks + 1)) v es) (putN name es n))] ++ r) { s with heap := h', toks := s.toks + 2 } :=
    S1.to (St.mut (own := [(dx, dictOf es n)]) (rest := r) S1.st hk F.ns (fun p hp => by rw [List.mem_singleton.mp hp]; exact hdx) rfl)
  exact S2.perm p2
theorem x_attr {o : Expr} {attr : Str} {pos' pos : Pos} {value : Expr} {rest : List Stmt} {env : Env} {M : Model} {Q : Flow → Shared → Prop}
    (h : ∀ K, Back K (fun s₃ => wpAny M A (execs rest env) Q E s₃) → wpAny M A (eval value env) (fun v s₁ => wpAny M A (eval o env) (fun ov s₂ => wpAny M A (setAttr ov attr v) (fun _ s₃ => K s₃) E s₂) E s₁) E s)
    (hs : swapsWith value (some (.Attribute o attr pos')) pos.line env = pure false) : wpAny M A (execs (.Assign [.Attribute o attr pos'] value pos :: rest) env) Q E s :=
  x_then (plainObj_wpAny_Assign_Attribute (h _ fun _ q => q) hs)
theorem e_callK {pos : Pos} {f : Value} {e : Expr} {rest : List Expr} {Q : Value → Shared → Prop} (T : Tp w c.G0) (hk : keepIn (KK w.params) f = true)
    (h : wpAny (model pw w) A (spliced (backTo pos (starEach (e :: rest) c.env))) (fun vs s₁ => (∃ g m news, Sn c g m news s₁) ∧ wpAny (model pw w) A (call f vs) Q E s₁) E s)
    (he : starEach (e :: rest) c.env = (false, eval e c.env) :: starEach rest c.env) (hp : (backTo pos (starEach rest c.env)).any (·.1) = false) : wpAny (model pw w) A (callWith pos f [] (backTo pos (starEach (e :: rest) c.env)) []) Q E s :=
  callWith_K (h₀ := c.G0) T.K hk (wpAny_mono h (fun vs s₁ q => by obtain ⟨⟨_, _, _, S⟩, q⟩ := q; exact ⟨fun a o e => S.top (T.K a o e), q⟩) fun _ _ e => e) he hp
theorem e_callK0 {pos : Pos} {f : Value} {Q : Value → Shared → Prop} (S : Sn c g m news s) (T : Tp w c.G0) (hk : keepIn (KK w.params) f = true)
    (h : wpAny (model pw w) A (call f []) Q E s) : wpAny (model pw w) A (callWith pos f [] (backTo pos (starEach [] c.env)) []) Q E s :=
  callWith_K0 (K := KK w.params) (fun a o e => S.top (T.K a o e)) hk h
theorem o_methD {x C dx f : Addr} {es : List DictEntry} {n : Nat} {name : Str} {pl : Sem Bool} {Q : Value × List Value → Shared → Prop} (S : Sn c g m news s) (T : Tp w c.G0) (h1 : g x = some (instObj C dx)) (h2 : LMem dx (dictOf es n) news)
    (hc : clsB (KK w.params) C = true) (hf : findIn (KK w.params) (.ref C) name = some (some (.ref f))) (ht : isFn (KK w.params) (.ref f) = true) (hl : getL name es = some none) (h : Q (.ref f, [.ref x]) s) : wpAny (model pw w) A (getMethod (.ref x) name pl) Q E s :=
  o_meth S T (S.see h1) (S.at h2) ((clsB_of hc).2.2.2 name) hf ht hl h
theorem o_methG {x C dx f : Addr} {es : List DictEntry} {n : Nat} {name : Str} {pl : Sem Bool} {Q : Value × List Value → Shared → Prop} (S : Sn c g m news s) (T : Tp w c.G0) (h1 : g x = some (instObj C dx)) (h2 : g dx = some (dictOf es n))
    (hc : clsB (KK w.params) C = true) (hf : findIn (KK w.params) (.ref C) name = some (some (.ref f))) (ht : isFn (KK w.params) (.ref f) = true) (hl : getL name es = some none) (h : Q (.ref f, [.ref x]) s) : wpAny (model pw w) A (getMethod (.ref x) name pl) Q E s :=
  o_meth S T (S.see h1) (S.see h2) ((clsB_of hc).2.2.2 name) hf ht hl h
end
end Mine

-- MNew
namespace Mine
/-- a call that hands out own objects -/
noncomputable def OutN (s : Shared) (g : Vis) (W : List Addr) (P : Value → Vis → Led → Led → Prop) (v : Value) (s' : Shared) : Prop :=
  ∃ nw, (∀ p ∈ nw, s'.heap.get? p.1 = some p.2 ∧ s.heap.get? p.1 = none) ∧ (nw.map (·.1)).Nodup ∧ Out s g W (fun v g' own' => (∀ p ∈ nw, g' p.1 = none) ∧ P v g' own' nw) v s'
noncomputable def CtN (prog : Program) (w : World) (G0 : Heap) (d : Nat) (f : Value) (args : List Value) (g : Vis) (own : Led) (P : Value → Vis → Led → Led → Prop) : Prop :=
  ∀ (A : Around) (s : Shared) (E : Value → Shared → Prop), Rm A d → Vw G0 s.heap g own → G0.objs.size ≤ s.heap.objs.size → wpAny (model prog w) A (call f args) (OutN s g (own.map (·.1)) P) E s
noncomputable def RetQN (c : Cx) (g : Vis) (W : List Addr) (P : Value → Vis → Led → Led → Prop) : Flow → Shared → Prop := fun fl s' => OutN c.s₀ g W P (match fl with | .ret v => v | _ => .none) s'
section
variable {prog : Program} {w : World} {A : Around} {E : Value → Shared → Prop} {s : Shared}
variable {c : Cx} {g : Vis} {m m' : Loc} {news own new rest : Led}
theorem St.alive {G0 : Heap} {gls : List (Str × Value)} {x : Fx} {h : Heap} (S : St G0 gls x g m news h) : ∀ a ∈ owns x.env.locals m news, ∃ o, h.get? a = some o := by
  intro a ha
  rcases List.mem_cons.mp ha with rfl | ha
  · obtain ⟨o, _, _, h, _⟩ := S.ns; exact ⟨o, h⟩
  · rcases List.mem_append.mp ha with ha | ha
    · have key : ∀ m' : Loc, (∀ nm c v, (nm, Slot.cell c v) ∈ m' → h.IsCell c v) → a ∈ cellsOf m' → ∃ o, h.get? a = some o := by
        intro m'
        induction m' with
        | nil => intro _ q; cases q
        | cons p r ih =>
          obtain ⟨y, sl⟩ := p
          intro hc q
          cases sl with
          | cell c v =>
            rcases List.mem_cons.mp q with rfl | q
            · obtain ⟨o, ho, _⟩ := hc y a v (.head _); exact ⟨o, ho⟩
            · exact ih (fun nm c v e => hc nm c v (.tail _ e)) q
          | loc v => exact ih (fun nm c v e => hc nm c v (.tail _ e)) q
          | ro c v => exact ih (fun nm c v e => hc nm c v (.tail _ e)) q
      exact key m S.cl ha
    · obtain ⟨p, hp, rfl⟩ := List.mem_map.mp ha
      exact ⟨_, S.ob p hp⟩
theorem r_leaveN {g₀ : Vis} {W : List Addr} {P : Value → Vis → Led → Led → Prop} {v : Value} (S : Sn c g m news s) (e : Ente c g₀ W) (hp : news.Perm (own ++ (new ++ rest))) (hw : own.map (·.1) = W) (p : P v g own new) : RetQN c g₀ W P (.ret v) s := by
  have S1 := S.perm hp
  have dj := (List.nodup_append.mp (List.nodup_cons.mp S1.st.dj).2).2.1
  rw [List.map_append, List.map_append] at dj
  obtain ⟨_, d2, d3⟩ := List.nodup_append.mp dj
  have inO : ∀ q ∈ new, q.1 ∈ owns c.env.locals m (own ++ (new ++ rest)) := fun q hq => .tail _ (List.mem_append_right _ (List.mem_map_of_mem (f := (·.1)) (List.mem_append_right _ (List.mem_append_left _ hq))))
  refine ⟨new, fun q hq => ⟨S1.st.ob q (List.mem_append_right _ (List.mem_append_left _ hq)), ?_⟩, (List.nodup_append.mp d2).1, ?_⟩
  · cases z : c.s₀.heap.get? q.1 with
    | none => rfl
    | some o =>
      have h1 : q.1 ∉ W := fun y => by
        rw [← hw] at y
        exact d3 _ y _ (List.mem_append_left _ (List.mem_map_of_mem hq)) rfl
      have h2 := e.h₀ _ _ z h1
      have h3 := (S1.st.hn _ (inO q hq)).1
      have h4 : c.h₀.get? q.1 = none := h3
      rw [h2] at h4; cases h4
  · exact ⟨s.heap, s.toks, g, own, S.eq, fun b o q n => S1.st.keep b o (e.h₀ b o q n), by have := S1.sz; have z := e.n₀; lia, e.g₀ ▸ S1.up,
      fun a o q => by have := S1.st.ext a o q; have z1 := e.g₀; have z2 := e.n₀; simp only [Cx.fx] at this; rwa [z1, z2] at this, S1.sub, fun p q => S1.st.ob p (List.mem_append_left _ q), hw, fun q hq => (S1.st.hn _ (inO q hq)).2, p⟩
theorem r_callN {d : Nat} {f : Value} {args : List Value} {P : Value → Vis → Led → Led → Prop} {Q : Value → Shared → Prop} (S : Sn c g m news s) (r : Rm A d) (hp : Pick own news rest) (hf : CtN prog w c.G0 d f args g own P)
    (h : ∀ v s' g' own' nw, Sn c g' m (nw ++ (own' ++ rest)) s' → VSub g g' → own'.map (·.1) = own.map (·.1) → P v g' own' nw → Q v s') : wpAny (model prog w) A (call f args) Q E s := by
  have S1 := S.st.perm hp.perm
  refine wpAny_mono (hf A s E r S1.vw (Nat.le_trans S.gz S.sz)) (fun v s' o => ?_) fun _ _ e => e
  obtain ⟨nw, n1, n2, o⟩ := o
  obtain ⟨h', tk, g', own', rfl, S', hv, hp', e⟩ : ∃ h' tk g' own', s' = { s with heap := h', toks := tk } ∧ St c.G0 c.gls c.fx g' m (own' ++ rest) h' ∧ VSub g g' ∧ ((∀ p ∈ nw, g' p.1 = none) ∧ P v g' own' nw) ∧ own'.map (·.1) = own.map (·.1) := by
    obtain ⟨h', tk, g', own', e, S', hv, hp'⟩ := S1.out (o.imp (P' := fun v g' own' => ((∀ p ∈ nw, g' p.1 = none) ∧ P v g' own' nw) ∧ own'.map (·.1) = own.map (·.1)) fun v g' own' q _ p => ⟨p, q⟩)
    exact ⟨h', tk, g', own', e, S', hv, hp'.1, hp'.2⟩
  refine h v _ g' own' nw (S.to ?_) hv e hp'.2
  have eo : owns c.env.locals m (own' ++ rest) = owns c.env.locals m (own ++ rest) := by unfold owns; rw [List.map_append, List.map_append, e]
  have fr : ∀ q ∈ nw, q.1 ∉ owns c.env.locals m (own' ++ rest) := fun q hq y => by
    rw [eo] at y
    obtain ⟨o, ho⟩ := S1.alive _ y
    rw [(n1 q hq).2] at ho; cases ho
  have h0 : ∀ q ∈ nw, c.h₀.get? q.1 = none := fun q hq => by
    cases z : c.h₀.get? q.1 with
    | none => rfl
    | some o => have := S1.keep _ _ z; rw [(n1 q hq).2] at this; cases this
  clear eo h
  have gn := hp'.1
  clear hp' o
  induction nw with
  | nil => exact S'
  | cons p r ih =>
    have nd := List.nodup_cons.mp (show (p.1 :: r.map (·.1)).Nodup from n2)
    have S2 := ih nd.2 (fun q hq => n1 q (.tail _ hq)) (fun q hq => fr q (.tail _ hq)) (fun q hq => h0 q (.tail _ hq)) (fun q hq => gn q (.tail _ hq))
    refine S2.add (n1 p (.head _)).1 (fun y => ?_) (h0 p (.head _)) (gn p (.head _))
    rcases List.mem_cons.mp y with y | y
    · exact fr p (.head _) (y ▸ .head _)
    · rcases List.mem_append.mp y with y | y
      · exact fr p (.head _) (.tail _ (List.mem_append_left _ y))
      · rw [List.map_append] at y
        rcases List.mem_append.mp y with y | y
        · exact nd.1 y
        · exact fr p (.head _) (.tail _ (List.mem_append_right _ y))
theorem entN {prog : Program} {w : World} {G0 : Heap} {gls : List (Str × Value)} {f : Addr} {o : Obj} {fd : FuncData} {body : List Stmt} {args : List Value} {binds : List (Str × Value)} {rest : List Str} {own : Led} {d : Nat} {m : Loc} {P : Value → Vis → Led → Led → Prop}
    (ho : G0.get? f = some o) (hd : o.data = .func fd) (hlim : G0.NoLimit) (hcd : G0.CodeRec fd.code fd.qualname) (hbody : fd.body = .stmts body)
    (hgl : fd.globals = mainGlobals) (hbl : fd.builtins = builtinsNs) (hbind : ∀ s : Shared, (∀ b o', G0.get? b = some o' → s.heap.get? b = some o') → BindsTo s fd ⟨args, []⟩ binds) (hm : m = m0 binds rest) (hok : namesOk fd.scope (names m) gls = true) (gb : Glb G0 gls)
    (h : ∀ c s₁ A, Rm A d → c.G0 = G0 → c.gls = gls → (∃ L, c.env = callEnv fd L f) → Ente c g (own.map (·.1)) → Sn c g m own s₁ → wpAny (model prog w) A (execs body c.env) (RetQN c g (own.map (·.1)) P) (fun _ _ => False) s₁) :
    CtN prog w G0 (d + 1) (.ref f) args g own P := by
  intro A s E r V z
  refine wpAny_call (enter (gls := gls) r V ho hd hlim hcd hbody hgl hbl (hbind s fun b o' e => V.sub _ _ (V.gg _ _ e)) hm hok gb ?_)
  intro x h₁ tk he en S
  have := h ⟨x.env, x.h₀, x.g₀, x.n₀, G0, gls, s⟩ { s with heap := h₁, toks := tk } (A.deeper x.env) r.deeper rfl rfl ⟨_, he⟩ ⟨en.g₀, en.n₀, en.h₀⟩ ⟨S, rfl, by show G0.objs.size ≤ x.n₀; rw [en.n₀]; exact z⟩
  exact this
end
end Mine

-- MNew2
namespace Mine
section
variable {w : World} {A : Around} {E : Value → Shared → Prop} {s : Shared}
variable {c : Cx} {g : Vis} {m m' : Loc} {news own new rest : Led}
theorem sn_outN {P : Value → Vis → Led → Led → Prop} {v : Value} {s' : Shared} (S : Sn c g m (own ++ rest) s) (o : OutN s g (own.map (·.1)) P v s') :
    ∃ g' own' nw, Sn c g' m (nw ++ (own' ++ rest)) s' ∧ VSub g g' ∧ own'.map (·.1) = own.map (·.1) ∧ P v g' own' nw := by
  have S1 := S.st
  obtain ⟨nw, n1, n2, o⟩ := o
  obtain ⟨h', tk, g', own', rfl, S', hv, hp', e⟩ : ∃ h' tk g' own', s' = { s with heap := h', toks := tk } ∧ St c.G0 c.gls c.fx g' m (own' ++ rest) h' ∧ VSub g g' ∧ ((∀ p ∈ nw, g' p.1 = none) ∧ P v g' own' nw) ∧ own'.map (·.1) = own.map (·.1) := by
    obtain ⟨h', tk, g', own', e, S', hv, hp'⟩ := S1.out (o.imp (P' := fun v g' own' => ((∀ p ∈ nw, g' p.1 = none) ∧ P v g' own' nw) ∧ own'.map (·.1) = own.map (·.1)) fun v g' own' q _ p => ⟨p, q⟩)
    exact ⟨h', tk, g', own', e, S', hv, hp'.1, hp'.2⟩
  refine ⟨g', own', nw, S.to ?_, hv, e, hp'.2⟩
  have eo : owns c.env.locals m (own' ++ rest) = owns c.env.locals m (own ++ rest) := by unfold owns; rw [List.map_append, List.map_append, e]
  have fr : ∀ q ∈ nw, q.1 ∉ owns c.env.locals m (own' ++ rest) := fun q hq y => by
    rw [eo] at y
    obtain ⟨o, ho⟩ := S1.alive _ y
    rw [(n1 q hq).2] at ho; cases ho
  have h0 : ∀ q ∈ nw, c.h₀.get? q.1 = none := fun q hq => by
    cases z : c.h₀.get? q.1 with
    | none => rfl
    | some o => have := S1.keep _ _ z; rw [(n1 q hq).2] at this; cases this
  clear eo
  have gn := hp'.1
  clear hp' o
  induction nw with
  | nil => exact S'
  | cons p r ih =>
    have nd := List.nodup_cons.mp (show (p.1 :: r.map (·.1)).Nodup from n2)
    have S2 := ih nd.2 (fun q hq => n1 q (.tail _ hq)) (fun q hq => fr q (.tail _ hq)) (fun q hq => h0 q (.tail _ hq)) (fun q hq => gn q (.tail _ hq))
    refine S2.add (n1 p (.head _)).1 (fun y => ?_) (h0 p (.head _)) (gn p (.head _))
    rcases List.mem_cons.mp y with y | y
    · exact fr p (.head _) (y ▸ .head _)
    · rcases List.mem_append.mp y with y | y
      · exact fr p (.head _) (.tail _ (List.mem_append_left _ y))
      · rw [List.map_append] at y
        rcases List.mem_append.mp y with y | y
        · exact nd.1 y
        · exact fr p (.head _) (.tail _ (List.mem_append_right _ y))
/-- the same, as code -/
noncomputable def CtCN (prog : Program) (w : World) (G0 : Heap) (d : Nat) (f : Value) (args : List Value) (g : Vis) (own : Led) (n : Nat) (P : Value → Vis → Led → Led → Prop) : Prop :=
  ∀ (A : Around) (s : Shared) (R : Result → Shared → Prop), Rm A d → Vw G0 s.heap g own → G0.objs.size ≤ s.heap.objs.size → n ≤ s.heap.objs.size → (∀ v s', OutN s g (own.map (·.1)) P v s' → R (.ok (.ret v)) s') → codeAny (model prog w) A (.call f ⟨args, []⟩) R s
theorem entKN {prog : Program} {w : World} {G0 : Heap} {gls : List (Str × Value)} {f : Addr} {o : Obj} {fd : FuncData} {body : List Stmt} {args : List Value} {binds : List (Str × Value)} {rest : List Str} {own : Led} {d n : Nat} {m : Loc} {P : Value → Vis → Led → Led → Prop}
    (ho : G0.get? f = some o) (hd : o.data = .func fd) (hlim : G0.NoLimit) (hcd : G0.CodeRec fd.code fd.qualname) (hbody : fd.body = .stmts body)
    (hgl : fd.globals = mainGlobals) (hbl : fd.builtins = builtinsNs) (hbind : ∀ s : Shared, (∀ b o', G0.get? b = some o' → s.heap.get? b = some o') → BindsTo s fd ⟨args, []⟩ binds) (hm : m = m0 binds rest) (hok : namesOk fd.scope (names m) gls = true) (gb : Glb G0 gls)
    (h : ∀ c s₁ A, Rm A d → n ≤ c.n₀ → c.G0 = G0 → c.gls = gls → (∃ L, c.env = callEnv fd L f) → Ente c g (own.map (·.1)) → Sn c g m own s₁ → wpAny (model prog w) A (execs body c.env) (RetQN c g (own.map (·.1)) P) (fun _ _ => False) s₁) :
    CtCN prog w G0 (d + 1) (.ref f) args g own n P := by
  intro A s R r V z zn k
  refine enter (gls := gls) r V ho hd hlim hcd hbody hgl hbl (hbind s fun b o' e => V.sub _ _ (V.gg _ _ e)) hm hok gb ?_
  intro x h₁ tk he en S
  have := h ⟨x.env, x.h₀, x.g₀, x.n₀, G0, gls, s⟩ { s with heap := h₁, toks := tk } (A.deeper x.env) r.deeper (by show n ≤ x.n₀; rw [en.n₀]; exact zn) rfl rfl ⟨_, he⟩ ⟨en.g₀, en.n₀, en.h₀⟩ ⟨S, rfl, by show G0.objs.size ≤ x.n₀; rw [en.n₀]; exact z⟩
  exact wpAny_mono this (fun fl s' o => k _ _ o) fun _ _ q => q
theorem o_makeN {C fI : Addr} {args : List Value} {d : Nat} {P : Addr → Addr → Value → Vis → Led → Led → Prop} {Q : Value → Shared → Prop} (S : Sn c g m news s) (r : Rm A (d + 1)) (T : Tp w c.G0) (hm : makesIn (KK w.params) C = true)
    (hi : findIn (KK w.params) (.ref C) "__init__" = some (some (.ref fI))) (hf : typeIn (KK w.params) (.ref fI) = some (.type "function"))
    (hc : ∀ x dx g', VSub g g' → g' x = some (instObj C dx) → CtCN pw w c.G0 d (.ref fI) (.ref x :: args) g' [(dx, emptyDict)] c.n₀ (P x dx)) (hP : ∀ x dx v g' own' nw, P x dx v g' own' nw → v = .none)
    (h : ∀ x dx s' g' own' nw, c.n₀ ≤ dx → Sn c g' m (nw ++ (own' ++ news)) s' → VSub g g' → g' x = some (instObj C dx) → own'.map (·.1) = [dx] → P x dx .none g' own' nw → Q (.ref x) s') : wpAny (model pw w) A (call (.ref C) args) Q E s := by
  have XK : (KK w.params).In s.heap := fun a o e => S.top (T.K a o e)
  refine wpAny_call ?_
  have S0 := S
  obtain ⟨hh, gg, dd, t, os⟩ := s
  refine make_core (makes_of XK hm) (looks_findIn XK hi) (fun self => bind_fn XK self hf) (.inl rfl) ?_
  have S1 := S0.push (tk := t) (o := emptyDict) rfl
  have S2 := S1.push (tk := t) (o := instObj C hh.objs.size) rfl
  have hsz : (hh.push emptyDict).objs.size = hh.objs.size + 1 := Heap.size_push ..
  have S2' : Sn c g m ((hh.objs.size + 1, instObj C hh.objs.size) :: (hh.objs.size, emptyDict) :: news) ⟨(hh.push emptyDict).push (instObj C hh.objs.size), gg, dd, t, os⟩ := by
    have := S2
    simp only [hsz] at this
    exact this
  obtain ⟨g', hv, hg', S3⟩ := S2'.lock .hd (Nat.le_trans S0.sz (Nat.le_succ _))
  have S4 : Sn c g' m ([(hh.objs.size, emptyDict)] ++ news) _ := S3
  refine hc (hh.objs.size + 1) hh.objs.size g' hv hg' _ _ _ r.under S4.st.vw (Nat.le_trans S4.gz S4.sz) S4.sz fun v s' o => ?_
  obtain ⟨g2, own', nw, S', hv2, e, p⟩ := sn_outN S4 o
  have hvn := hP _ _ _ _ _ _ p
  subst hvn
  exact ⟨rfl, h _ _ _ g2 own' nw S0.sz S' (hv.trans hv2) (hv2 _ _ hg') e p⟩
end
end Mine

namespace Mine
set_option hygiene false in
local macro_rules | `(tactic| walk_at "at") => `(tactic| with_reducible repeat (first | exact At.loc | exact At.cell | exact At.ro | apply At.tl))
set_option hygiene false in
local macro_rules | `(tactic| walk_at "set") => `(tactic| with_reducible repeat (first | exact Set.loc | exact Set.cell | apply Set.tl))
set_option hygiene false in
local macro_rules | `(tactic| walk_at "mem") => `(tactic| with_reducible repeat (first | exact List.mem_cons_self | apply List.mem_cons_of_mem))
set_option hygiene false in
local macro_rules | `(tactic| walk_at "led") => `(tactic| with_reducible repeat (first | exact LMem.hd | exact LUp.hd | exact LDel.hd | exact Pick.nil | apply LMem.tl | apply LUp.tl | apply LDel.tl | apply Pick.cons | apply LMem.ac | apply LUp.ac | apply LDel.ac | apply LMem.an | apply LUp.an | apply LDel.an | apply LMem.app | apply LUp.app | apply LDel.app))
set_option hygiene false in
local macro_rules | `(tactic| walk_at "go1") => `(tactic| with_reducible first
    | focus (show wpAny _ _ (execs _ _) _ _ _; first | refine x_nil ?_ | refine x_ret ?_ | (refine x_asg (fun _ _ => ?_) ?_; rotate_left; with_unfolding_all rfl) | refine x_if (fun _ _ => ?_) | (refine x_exprS ‹Sn _ _ _ _ _› (fun _ _ => ?_) ?_; rotate_left; with_unfolding_all rfl) | (refine x_for (fun _ _ => ?_) ?_; rotate_left; intro _; with_unfolding_all rfl) | (refine x_tup (fun _ _ => ?_) ?_ ?_; rotate_left; with_unfolding_all rfl; with_unfolding_all rfl) | (refine x_sub (fun _ _ => ?_) ?_; rotate_left; with_unfolding_all rfl) | (refine x_attr (fun _ _ => ?_) ?_; rotate_left; with_unfolding_all rfl))
    | focus (show wpAny _ _ (eval _ _) _ _ _; first | focus (show wpAny _ _ (eval (Expr.Name _ _) _) _ _ _; first | refine n_ld ‹Sn _ _ _ _ _› (by first | (walk_at "at"; done) | fail) ?_ | refine n_gl ‹Sn _ _ _ _ _› (by rw [‹Cx.gls _ = _›]; walk_at "mem") ?_) | focus (show wpAny _ _ (eval (Expr.Constant _ _ _) _) _ _ _; first | (refine e_int ‹Sn _ _ _ _ _› ?_; intro _ _ _) | (refine e_str ‹Sn _ _ _ _ _› ?_; intro _ _ _) | refine Constant_none ?_ | refine Constant_bool ?_) | focus (show wpAny _ _ (eval (Expr.Call (Expr.Attribute _ _ _) _ _ _) _) _ _ _; refine MethodCall_ ?_ (by with_unfolding_all rfl)) | (refine Call_ ?_ ?_; rotate_left; with_unfolding_all rfl) | (refine Attribute_any_ ?_ ?_; rotate_left; with_unfolding_all rfl) | refine Subscript_ ?_ | refine wpAny_Compare1 ?_ | refine wpAny_BinOp ?_ | refine Tuple_ ?_ | refine List_ ?_ | refine IfExp_ ?_ | refine UnaryOp_ ?_ | refine Compare_chain ?_ | refine BoolOp_and ?_ | refine BoolOp_or ?_ | refine BoolOp_one ?_)
    | focus (show wpAny _ _ (isTrue _ _ _) _ _ _; first | focus (show wpAny _ _ (isTrue (Expr.Call _ _ _ _) _ _) _ _ _; refine isTrue_plain ?_ ?_; rotate_left; with_unfolding_all rfl) | refine wpAny_isTrue_Compare1 ?_ | refine isTrue_chain ?_ | refine isTrue_and ?_ | refine isTrue_or ?_ | refine isTrue_and_nil ?_ | refine isTrue_or_nil ?_ | refine isTrue_not ?_)
    | focus (show wpAny _ _ (spliced _) _ _ _; first | (refine spliced_more ?_ ?_; rotate_left; with_unfolding_all rfl) | refine spliced_none ?_)
    | focus (show wpAny _ _ (compareOp _ _ _) _ _ _; first | refine c_isnot_ref ?_ | refine c_isnot_none ?_ | refine c_is_ref ?_ | refine c_is_none ?_ | refine c_is_int ?_ | refine c_isnot_int ?_ | refine P.eq_int ?_ | refine P.ne_int ?_ | refine P.lt_int ?_ | refine P.le_int ?_ | refine P.gt_int ?_ | refine P.ge_int ?_ | refine is_none ?_ | refine isNot_none ?_)
    | focus (show wpAny _ _ (binaryOp Operator.Add (Value.int _ _) (Value.int _ _)) _ _ _; refine b_add ‹Sn _ _ _ _ _› ?_; intro _ _ _)
    | focus (show wpAny _ _ (binaryOp Operator.Sub (Value.int _ _) (Value.int _ _)) _ _ _; refine b_sub ‹Sn _ _ _ _ _› ?_; intro _ _ _)
    | focus (show wpAny _ _ (unaryOp UnaryOp.USub (Value.int _ _)) _ _ _; refine b_neg ‹Sn _ _ _ _ _› ?_; intro _ _ _)
    | focus (show wpAny _ _ (storeName _ _ _) _ _ _; refine n_st ‹Sn _ _ _ _ _› (by walk_at "set") ?_; intro _ _)
    | focus (show wpAny _ _ (truthy (Value.bool _)) _ _ _; refine wpAny_truthy_bool ?_)
    | focus (show wpAny _ _ (assign (Expr.Name _ _) _ _) _ _ _; refine a_name ?_)
    | focus (show wpAny _ _ (assignInOrder _ _) _ _ _; first | (refine a_more ?_ ?_; rotate_left; with_unfolding_all rfl) | refine a_done ?_ | refine o_more ?_ | refine o_done ?_)
    | focus (show wpAny _ _ (callWith _ (Value.ref 191) _ _ _) _ _ _; refine e_callK ‹Tp _ _› ?_ ?_ ?_ ?_; kernel_rfl; rotate_left; with_unfolding_all rfl; with_unfolding_all rfl)
    | focus (show wpAny _ _ (callWith _ (Value.ref 280) _ _ _) _ _ _; refine e_callK ‹Tp _ _› ?_ ?_ ?_ ?_; kernel_rfl; rotate_left; with_unfolding_all rfl; with_unfolding_all rfl)
    | focus (show wpAny _ _ (callWith _ (Value.ref 308) _ _ _) _ _ _; refine e_callK ‹Tp _ _› ?_ ?_ ?_ ?_; kernel_rfl; rotate_left; with_unfolding_all rfl; with_unfolding_all rfl)
    | focus (show wpAny _ _ (callWith _ (Value.ref 336) _ _ _) _ _ _; refine e_callK ‹Tp _ _› ?_ ?_ ?_ ?_; kernel_rfl; rotate_left; with_unfolding_all rfl; with_unfolding_all rfl)
    | focus (show wpAny _ _ (callWith _ (Value.ref 451) _ _ _) _ _ _; refine e_callK0 ‹Sn _ _ _ _ _› ‹Tp _ _› ?_ ?_; kernel_rfl)
    | focus (show wpAny _ _ (setAttr (Value.ref _) (Str.ofString "second") _) _ _ _; refine pc_set2 ‹Sn _ _ _ _ _› ‹Tp _ _› (by assumption) (by walk_at "led") ?_; intro _ _)
    | focus (show wpAny _ _ (setAttr (Value.ref _) (Str.ofString "plain") _) _ _ _; refine pc_setP ‹Sn _ _ _ _ _› ‹Tp _ _› (by assumption) (by walk_at "led") ?_; intro _ _)
    | focus (show wpAny _ _ (setAttr (Value.ref _) _ _) _ _ _; (refine o_setD ‹Sn _ _ _ _ _› ‹Tp _ _› (by assumption) (by walk_at "led") ?_ ?_ ?_ ?_ ?_; (first | exact cls191 _ | exact cls280 _ | exact cls308 _ | exact cls336 _ | exact cls451 _); kernel_rfl; kernel_rfl; exact Nat.le_of_ble_eq_true (by kernel_rfl); intro _ _ hS; have := hS _ (by walk_at "led"); clear hS))
    | focus (show wpAny _ _ (getAttr (Value.ref _) (Str.ofString "plain") _) _ _ _; refine pc_plain ‹Sn _ _ _ _ _› ‹Tp _ _› (by assumption) (by walk_at "led") ?_ ?_; (first | with_unfolding_all rfl | exact OV.handed (by assumption)); intro _ _)
    | focus (show wpAny _ _ (getAttr (Value.ref _) (Str.ofString "first") _) _ _ _; refine pc_first ‹Sn _ _ _ _ _› ‹Tp _ _› (by assumption) (by walk_at "led") ?_ ?_; (first | with_unfolding_all rfl | exact OV.handed (by assumption)); intro _ _)
    | focus (show wpAny _ _ (getAttr (Value.ref _) (Str.ofString "second") _) _ _ _; refine pc_second ‹Sn _ _ _ _ _› ‹Tp _ _› (by assumption) (by walk_at "led") ?_ ?_; (first | with_unfolding_all rfl | exact OV.handed (by assumption)); intro _ _)
    | focus (show wpAny _ _ (getAttr (Value.ref _) (Str.ofString "kinds") _) _ _ _; refine ar_kinds ‹Sn _ _ _ _ _› ‹Tp _ _› (by assumption) ?_; intro _ _ _ _)
    | focus (show wpAny _ _ (getAttr (Value.ref _) (Str.ofString "funcs") _) _ _ _; refine ar_funcs ‹Sn _ _ _ _ _› ‹Tp _ _› (by assumption) ?_; intro _ _ _ _)
    | focus (show wpAny _ _ (getMethod (Value.ref _) (Str.ofString "parts") _) _ _ _; refine pm_parts ‹Sn _ _ _ _ _› ‹Tp _ _› (by assumption) (by walk_at "led") ?_)
    | focus (show wpAny _ _ (getMethod (Value.ref _) (Str.ofString "labels") _) _ _ _; refine pm_labels ‹Sn _ _ _ _ _› ‹Tp _ _› (by assumption) (by walk_at "led") ?_)
    | focus (show wpAny _ _ (getMethod (Value.ref _) (Str.ofString "of_kind") _) _ _ _; refine am_of_kind ‹Sn _ _ _ _ _› ‹Tp _ _› (by assumption) ?_)
    | focus (show wpAny _ _ (getMethod (Value.ref _) (Str.ofString "of_block") _) _ _ _; refine am_of_block ‹Sn _ _ _ _ _› ‹Tp _ _› (by assumption) ?_)
    | focus (show wpAny _ _ (getMethod (Value.ref _) (Str.ofString "of") _) _ _ _; refine am_of ‹Sn _ _ _ _ _› ‹Tp _ _› (by assumption) ?_)
    | focus (show wpAny _ _ (getMethod (Value.ref _) (Str.ofString "behind") _) _ _ _; refine am_behind ‹Sn _ _ _ _ _› ‹Tp _ _› (by assumption) ?_)
    | focus (show wpAny _ _ (getMethod (Value.ref _) (Str.ofString "behind_all") _) _ _ _; refine am_behind_all ‹Sn _ _ _ _ _› ‹Tp _ _› (by assumption) ?_)
    | focus (show wpAny _ _ (call (Value.type "int") [Value.bool _]) _ _ _; refine c_intB ‹Sn _ _ _ _ _› ?_; intro _ _ _)
    | focus (show wpAny _ _ (callWith _ (Value.ref _) _ _ _) _ _ _; first | (refine e_callG ?_ ?_ ?_; exact Tp.fnB ‹Tp _ _› (by kernel_rfl); rotate_left; with_unfolding_all rfl) | (refine e_callM ?_ ?_ ?_; exact Tp.fnB ‹Tp _ _› (by kernel_rfl); rotate_left; with_unfolding_all rfl) | (refine e_callF0 ‹Sn _ _ _ _ _› ?_ ?_; exact Tp.fnB ‹Tp _ _› (by kernel_rfl)))
    | focus (show wpAny _ _ (callWith _ (Value.type _) _ _ _) _ _ _; (refine callWith_type1 ?_ ?_ ?_; rotate_left; with_unfolding_all rfl; with_unfolding_all rfl))
    | focus (show wpAny _ _ (callWith _ (Value.builtin _) [] _ _) _ _ _; (refine callWith_builtin1 ?_ ?_ ?_; rotate_left; with_unfolding_all rfl; with_unfolding_all rfl))
    | focus (show wpAny _ _ (callWith _ (Value.builtin _) [_] _ _) _ _ _; first | refine callWith_method0 ?_ | (refine callWith_method1 ?_ ?_ ?_; rotate_left; with_unfolding_all rfl; with_unfolding_all rfl))
    | focus (show wpAny _ _ (getMethod _ (Str.ofString "append") _) _ _ _; refine m_append ‹Sn _ _ _ _ _› (by walk_at "led") ?_ ?_ ?_; rotate_left; with_unfolding_all rfl; with_unfolding_all rfl)
    | focus (show wpAny _ _ (getMethod _ (Str.ofString "pop") _) _ _ _; refine m_pop ‹Sn _ _ _ _ _› (by walk_at "led") ?_)
    | focus (show wpAny _ _ (getMethod _ (Str.ofString "extend") _) _ _ _; refine m_extend ‹Sn _ _ _ _ _› (by walk_at "led") ?_)
    | focus (show wpAny _ _ (testChain _ _ _ _) _ _ _; first | refine test_link ?_ | refine t_last ?_)
    | focus (show wpAny _ _ (compareChain _ _ _ _) _ _ _; first | refine chain_link ?_ | refine ch_last ?_)
    | refine none_and ?_
    | refine then_next ?_
    | refine then_ret ?_
    | refine i_t ?_
    | refine i_f ?_
    | refine tests_nil ?_
    | refine tests_one ?_
    | refine loop_ret ?_
    | refine sn_any ‹Sn _ _ _ _ _› ?_
    | refine b_go ‹Back _ _› ?_
    | refine b_goF ‹BackF _ _› ?_)
set_option hygiene false in
local macro_rules | `(tactic| walk_at "go") => `(tactic| repeat (walk_at "go1"))
set_option hygiene false in
local macro_rules | `(tactic| walk_at "gls") => `(tactic| repeat (first | exact glAll_nil | refine glAll_cons (by with_reducible first | exact gl_ref (by kernel_rfl) | exact gl_int (by kernel_rfl) | exact gl_type (by kernel_rfl) (by kernel_rfl) (by kernel_rfl) | exact gl_bi (by kernel_rfl) (by kernel_rfl) (by kernel_rfl)) ?_))
set_option hygiene false in
local macro_rules | `(tactic| walk_at "om") => `(tactic| (try clear hT); (try clear hI); (try clear hI2); (try clear hI3); (try clear hZ); (try clear he); (try clear hQ21); lia)
set_option hygiene false in
local macro_rules | `(tactic| walk_at "le") => `(tactic| first | with_reducible exact le_ad rfl | with_reducible exact le_lit rfl | with_reducible exact Nat.le_add_right _ _ | lia)
set_option hygiene false in
local macro_rules | `(tactic| walk_at "sz") => `(tactic| exact Nat.le_of_ble_eq_true (by with_unfolding_all rfl))
set_option hygiene false in
local macro_rules | `(tactic| walk_at "szo") => `(tactic| (simp only [sizeLine, List.length_append, List.length_cons, List.length_nil]; lia))

-- F1
noncomputable def TapeOk (vs : List Value) : Prop := ∃ ns, IntsAre vs ns ∧ ns.length ≤ 100
noncomputable def DrawD (w : World) (t : Addr) (left funcs : Int) (o : Obj) : Prop := ∃ t1 t2, o.IsDictOf (strKind pw w) [(("tape" : Str), .ref t), (("left" : Str), .int left t1), (("funcs" : Str), .int funcs t2)]
theorem ints_snoc {vs : List Value} {ns : List Int} (h : IntsAre vs ns) : ns ≠ [] → ∃ vs' ns' k t, vs = vs' ++ [.int k t] ∧ ns = ns' ++ [k] ∧ IntsAre vs' ns' := by
  induction h with
  | nil => exact fun h => absurd rfl h
  | cons n t r ih =>
    intro _
    cases r with
    | nil => exact ⟨[], [], n, t, rfl, rfl, .nil⟩
    | cons n2 t2 r =>
      obtain ⟨vs', ns', k, u, h1, h2, h3⟩ := ih (List.cons_ne_nil _ _)
      exact ⟨.int n t :: vs', n :: ns', k, u, congrArg (List.cons _) h1, congrArg (List.cons _) h2, .cons n t h3⟩

theorem cd466 (w : World) (G0 : Heap) (T : Tp w G0) : G0.CodeRec (.ref 466) "_law_next" := codeRec_of T.K (by kernel_rfl)
noncomputable def PNext (dA tA : Addr) (oD : Obj) (many : Int) : Value → Vis → Led → Prop := fun v _ own' => ∃ k tk vs' n', v = .int k tk ∧ 0 ≤ k ∧ k < many ∧ own' = [(dA, oD), (tA, lstO vs' n')] ∧ TapeOk vs'
set_option maxHeartbeats 400000 in
theorem sp_next {w : World} {G0 : Heap} (T : Tp w G0) {d : Nat} {g : Vis} {dA tA : Addr} {oD : Obj} {vs : List Value} {n : Nat} {left funcs many : Int} {tk : Tok} (hm : 0 < many) (hD : DrawD w tA left funcs oD) (hv : TapeOk vs) :
    Ct pw w G0 (d + 1) (.ref 467) [.ref dA, .int many tk] g [(dA, oD), (tA, lstO vs n)] (PNext dA tA oD many) := by
  obtain ⟨t1, t2, hD'⟩ := hD
  obtain ⟨ns, hi, hl⟩ := hv
  refine ent (gls := []) (m := [("draw", .loc (some (.ref dA))), ("many", .loc (some (.int many tk))), ("tape", .loc none)]) (binds := [("draw", .ref dA), ("many", .int many tk)]) (rest := ["tape"]) (T.K 467 o467 (by kernel_rfl)) (show o467.data = .func fd467 from rfl) T.nolim (cd466 w G0 T) rfl rfl rfl (fun _ _ => BindsTo.of_eq rfl) rfl (by kernel_rfl) (T.glb (by walk_at "gls")) ?_
  intro c s A r hG hgl he en S
  subst hG
  walk_at "go"
  refine s_dict (v := .ref tA) ‹Sn _ _ _ _ _› (Sn.at ‹Sn _ _ _ _ _› (by walk_at "led")) hD' rfl ?_; intro _ _
  walk_at "go"
  refine r_newL ‹Sn _ _ _ _ _› ?_ (by decide); intro la _ _ S1
  have l1 : LMem tA (lstO vs n) [(la, lstO [] 0), (dA, oD), (tA, lstO vs n)] := by walk_at "led"
  have l2 : LMem la (lstO [] 0) [(la, lstO [] 0), (dA, oD), (tA, lstO vs n)] := by walk_at "led"
  refine ne_intsK ⟨_, S1.at l1, rfl, _, rfl⟩ hi ⟨_, S1.at l2, rfl, _, rfl⟩ .nil r.units ?_
  walk_at "go"
  refine i_b (fun hb => ?_) (fun hb => ?_)
  · obtain ⟨vs', ns', k, t, rfl, rfl, hi'⟩ := ints_snoc hi (by simpa using hb)
    walk_at "go"
    have hlen := hi'.length
    simp only [List.length_append, List.length_singleton] at hl
    refine r_pop ‹Sn _ _ _ _ _› (by walk_at "led") ?_ (by show vs'.length < 2 ^ 24; omega); intro _ _
    walk_at "go"
    refine b_mod ‹Sn _ _ _ _ _› (by omega) ?_; intro _ _ _
    refine r_leave ‹Sn _ _ _ _ _› en (own := [(dA, oD), (tA, lstO vs' (n + 1))]) (by walk_at "led") rfl ⟨_, _, vs', n + 1, rfl, Int.fmod_nonneg_of_pos _ hm, Int.fmod_lt_of_pos _ hm, rfl, ns', hi', by omega⟩
  · walk_at "go"
    refine r_leave ‹Sn _ _ _ _ _› en (own := [(dA, oD), (tA, lstO vs n)]) (by walk_at "led") rfl ⟨_, _, vs, n, rfl, Int.le_refl _, hm, rfl, ns, hi, hl⟩
theorem r_next {w : World} {A : Around} {E : Value → Shared → Prop} {s : Shared} {c : Cx} {g : Vis} {m : Loc} {news rest : Led} {d : Nat} {dA tA : Addr} {oD : Obj} {vs : List Value} {n : Nat} {left funcs many : Int} {tk : Tok} {Q : Value → Shared → Prop}
    (S : Sn c g m news s) (r : Rm A (d + 1)) (hp : Pick [(dA, oD), (tA, lstO vs n)] news rest) (T : Tp w c.G0) (hm : 0 < many) (hD : DrawD w tA left funcs oD) (hv : TapeOk vs)
    (h : ∀ k t vs' n' s' g', 0 ≤ k → k < many → TapeOk vs' → VSub g g' → Sn c g' m ([(dA, oD), (tA, lstO vs' n')] ++ rest) s' → Q (.int k t) s') : wpAny (model pw w) A (call (.ref 467) [.ref dA, .int many tk]) Q E s :=
  r_call S r hp (sp_next T hm hD hv) fun v s' g' own' S' hv' hw hp => by obtain ⟨k, tk, vs', n', rfl, k0, k1, rfl, ht⟩ := hp; exact h k tk vs' n' s' g' k0 k1 ht hv' S'


-- F2
noncomputable def POne (dA tA : Addr) (oD : Obj) (P : Int → Prop) : Value → Vis → Led → Prop := fun v _ own' => ∃ k tk vs' n', v = .int k tk ∧ P k ∧ own' = [(dA, oD), (tA, lstO vs' n')] ∧ TapeOk vs'
set_option maxHeartbeats 400000 in
theorem sp_label {w : World} {G0 : Heap} (T : Tp w G0) {d : Nat} {g : Vis} {dA tA : Addr} {oD : Obj} {vs : List Value} {n : Nat} {left funcs : Int} (hD : DrawD w tA left funcs oD) (hv : TapeOk vs) :
    Ct pw w G0 (d + 2) (.ref 481) [.ref dA] g [(dA, oD), (tA, lstO vs n)] (POne dA tA oD fun k => 0 ≤ k ∧ k < 6) := by
  refine ent (gls := [("_law_next", .ref 467)]) (m := [("draw", .loc (some (.ref dA)))]) (binds := [("draw", .ref dA)]) (rest := []) (T.K 481 o481 (by kernel_rfl)) (show o481.data = .func fd481 from rfl) T.nolim (codeRec_of T.K (by kernel_rfl)) rfl rfl rfl (fun _ _ => BindsTo.of_eq rfl) rfl (by kernel_rfl) (T.glb (by walk_at "gls")) ?_
  intro c s A r hG hgl he en S
  subst hG
  walk_at "go"
  refine r_call ‹Sn _ _ _ _ _› r (by walk_at "led") (sp_next T (by decide) hD hv) ?_
  rintro v s' g' own' S' hv' hw ⟨k, tk, vs', n', rfl, k0, k1, rfl, ht⟩
  walk_at "go"
  refine b_mod ‹Sn _ _ _ _ _› (by decide) ?_; intro _ _ _
  refine r_leave ‹Sn _ _ _ _ _› en (own := [(dA, oD), (tA, lstO vs' n')]) (by walk_at "led") rfl ⟨_, _, vs', n', rfl, ⟨Int.fmod_nonneg_of_pos _ (by decide), Int.fmod_lt_of_pos _ (by decide)⟩, rfl, ht⟩
theorem r_label {w : World} {A : Around} {E : Value → Shared → Prop} {s : Shared} {c : Cx} {g : Vis} {m : Loc} {news rest : Led} {d : Nat} {dA tA : Addr} {oD : Obj} {vs : List Value} {n : Nat} {left funcs : Int} {Q : Value → Shared → Prop}
    (S : Sn c g m news s) (r : Rm A (d + 2)) (hp : Pick [(dA, oD), (tA, lstO vs n)] news rest) (T : Tp w c.G0) (hD : DrawD w tA left funcs oD) (hv : TapeOk vs)
    (h : ∀ k t vs' n' s' g', 0 ≤ k ∧ k < 6 → TapeOk vs' → VSub g g' → Sn c g' m ([(dA, oD), (tA, lstO vs' n')] ++ rest) s' → Q (.int k t) s') : wpAny (model pw w) A (call (.ref 481) [.ref dA]) Q E s :=
  r_call S r hp (sp_label T hD hv) fun v s' g' own' S' hv' hw hp => by obtain ⟨k, tk, vs', n', rfl, k0, rfl, ht⟩ := hp; exact h k tk vs' n' s' g' k0 ht hv' S'


-- F3
noncomputable def spansL : List (List Int) := [[65, 66, 0, 1, 1], [106, 120, 2, 1, 0], [32, 32, 0, 1, 1], [33, 33, 1, 0, 1], [34, 34, 1, 1, 1], [26, 26, 1, 0, 0], [27, 27, 3, 1, 0], [28, 28, 3, 1, 1], [1, 1, 0, 0, 0], [35, 35, 0, 1, 1], [36, 36, 1, 0, 1], [37, 37, 1, 1, 1], [38, 38, 2, 0, 1], [40, 41, 1, 1, 2], [44, 53, 1, 1, 2], [54, 55, 2, 0, 2], [58, 62, 2, 0, 2], [63, 63, 0, 1, 0], [64, 64, 1, 1, 0], [69, 69, 1, 1, 0], [70, 79, 2, 1, 0], [80, 80, 1, 1, 0], [81, 90, 2, 1, 0], [103, 105, 1, 1, 0], [121, 123, 1, 1, 0], [124, 138, 2, 1, 0], [167, 167, 1, 1, 0], [172, 173, 1, 1, 0], [192, 196, 1, 1, 0], [208, 208, 0, 1, 1], [209, 209, 1, 1, 0], [210, 210, 0, 1, 1], [64520, 64520, 3, 0, 1], [64521, 64521, 0, 0, 1], [64522, 64523, 3, 0, 0], [64524, 64524, 3, 0, 2], [64525, 64525, 0, 0, 1], [64526, 64526, 3, 0, 2], [64527, 64527, 2, 1, 1], [64528, 64528, 0, 1, 1], [64529, 64529, 3, 0, 1], [13, 13, 1, 0, 1]]
noncomputable abbrev PData (d : PyData) : Value → Vis → Led → Prop := fun v g' _ => Rd g' v d
set_option maxHeartbeats 400000 in
theorem sp_spans {w : World} {G0 : Heap} (T : Tp w G0) {d : Nat} {g : Vis} : Ct pw w G0 (d + 1) (.ref 474) [] g [] (PData (.list (spansL.map fun l => .tuple (iis l)))) := by
  refine ent (gls := []) (m := []) (binds := []) (rest := []) (T.K 474 o474 (by kernel_rfl)) (show o474.data = .func fd474 from rfl) T.nolim (codeRec_of T.K (by kernel_rfl)) rfl rfl rfl (fun _ _ => BindsTo.of_eq rfl) rfl (by kernel_rfl) (T.glb (by walk_at "gls")) ?_
  intro c s A r hG hgl he en S
  subst hG
  with_reducible refine x_ret ?_
  with_reducible refine List_ ?_
  with_reducible refine spl_tups (ks := spansL) ?_ ?_ ‹Sn _ _ _ _ _› ?_
  · kernel_rfl
  · decide
  intro vs s' g' hv hr S'
  with_reducible refine r_newLD ‹Sn _ _ _ _ _› hr ?_ ?_
  · intro a s' g' hv hr S'
    exact r_leave S' en (own := []) (by walk_at "led") rfl hr
  · have := hr.length; rw [this]; decide

theorem five {l : List Int} (h : l.length = 5) : l = [l.getD 0 0, l.getD 1 0, l.getD 2 0, l.getD 3 0, l.getD 4 0] := by
  cases l with | nil => cases h | cons a l => cases l with | nil => cases h | cons b l => cases l with | nil => cases h | cons c l => cases l with | nil => cases h | cons d l => cases l with | nil => cases h | cons e l => cases l with | nil => rfl | cons f l => cases h
theorem any_at {α : Type} {o : Option α} {f : α → Bool} (h : o.any f = true) : ∃ a, o = some a ∧ f a = true := by
  cases o with
  | none => cases h
  | some a => exact ⟨a, rfl, h⟩
theorem spans_at {q : Nat} (hq : q < 41) : ∃ first last takes puts many, spansL[q]? = some [first, last, takes, puts, many] ∧ 0 ≤ many ∧ many ≤ 2 ∧ first ≤ last := by
  have this : ∀ q : Fin 41, (spansL[q.1]?.any fun l => decide (l.length = 5 ∧ 0 ≤ l.getD 4 0 ∧ l.getD 4 0 ≤ 2 ∧ l.getD 0 0 ≤ l.getD 1 0)) = true := by decide +kernel
  have this := this ⟨q, hq⟩
  obtain ⟨l, e, h⟩ := any_at this
  have h := of_decide_eq_true h
  exact ⟨_, _, _, _, _, e.trans (congrArg some (five h.1)), h.2⟩

/-- a drawn instruction without blocks -/
noncomputable def In6 (l : Int) : Prop := 0 ≤ l ∧ l < 6
noncomputable def LeafOk (nf : Int) (p : List Int) : Prop :=
  (∃ l, In6 l ∧ (p = [13, l] ∨ p = [12, l])) ∨ (∃ ls, p = 14 :: ls ∧ 1 ≤ ls.length ∧ ls.length ≤ 3 ∧ ∀ l ∈ ls, In6 l) ∨ (∃ f, p = [16, f] ∧ 0 ≤ f ∧ f < nf) ∨ (∃ a b, p = [17, a, b] ∧ 0 ≤ a ∧ a < 3 ∧ 0 ≤ b ∧ b < 2) ∨
    p = [15] ∨ p = [0] ∨ p = [18, 0] ∨ p = [19, 1, 0] ∨
    ∃ k first last takes puts many c ls, k < 41 ∧ spansL[k]? = some [first, last, takes, puts, many] ∧ first ≤ c ∧ c ≤ last ∧ p = c :: ls ∧ (ls.length : Int) = many ∧ ∀ l ∈ ls, -3 ≤ l ∧ l < 6
noncomputable def PPlain (dA tA : Addr) (oD : Obj) (nf : Int) : Value → Vis → Led → Prop := fun v g' own' => ∃ p vs' n', Rd g' v (.tuple (iis p)) ∧ LeafOk nf p ∧ own' = [(dA, oD), (tA, lstO vs' n')] ∧ TapeOk vs'
set_option maxHeartbeats 1000000 in
theorem sp_plain {w : World} {G0 : Heap} (T : Tp w G0) {d : Nat} {g : Vis} {dA tA : Addr} {oD : Obj} {vs : List Value} {n : Nat} {left nf pick : Int} {tk0 : Tok} (hf : 0 < nf) (hD : DrawD w tA left nf oD) (hv : TapeOk vs) (hp : 0 ≤ pick ∧ pick < 7) :
    Ct pw w G0 (d + 3) (.ref 486) [.ref dA, .int pick tk0] g [(dA, oD), (tA, lstO vs n)] (PPlain dA tA oD nf) := by
  refine entC (gls := [("_law_label", .ref 481), ("tuple", .type "tuple"), ("range", .type "range"), ("_law_next", .ref 467), ("_law_spans", .ref 474), ("len", .builtin "len")])
    (m := fun L => [("draw", .cell (L + 1) (some (.ref dA))), ("pick", .loc (some (.int pick tk0))), ("first", .loc none), ("last", .loc none), ("takes", .loc none), ("puts", .loc none), ("many", .loc none), ("code", .loc none)])
    (binds := [("draw", .ref dA), ("pick", .int pick tk0)]) (ns := ["draw", "pick", "first", "last", "takes", "puts", "many", "code"])
    (T.K 486 o486 (by kernel_rfl)) (show o486.data = .func fd486 from rfl) T.nolim (codeRec_of T.K (by kernel_rfl)) rfl rfl rfl rfl rfl (fun L => by kernel_rfl) (by kernel_rfl) (T.glb (by walk_at "gls")) ?_
  intro c s A L r hG hgl he en S
  subst hG
  walk_at "go"
  with_reducible refine i_b (fun hb => ?_) (fun hb => ?_)
  · walk_at "go"
    with_reducible refine r_label ‹Sn _ _ _ _ _› r (by walk_at "led") T hD hv ?_
    intro k tk vs' n' s' g' k0 ht hv' S'
    walk_at "go"
    with_reducible refine r_newTD ‹Sn _ _ _ _ _› (xs := iis [13, k]) ?_ ?_ ?_
    · exact .cons (.int _ _) (.cons (.int _ _) .nil)
    · intro a s' g2 hv2 hr S'
      walk_at "go"
      exact r_leave S' en (own := [(dA, oD), (tA, lstO vs' n')]) (by walk_at "led") rfl ⟨_, vs', n', hr, .inl ⟨k, k0, .inl rfl⟩, rfl, ht⟩
    · walk_at "sz"
  walk_at "go"
  with_reducible refine i_b (fun hb => ?_) (fun hb => ?_)
  · walk_at "go"
    with_reducible refine r_label ‹Sn _ _ _ _ _› r (by walk_at "led") T hD hv ?_
    intro k tk vs' n' s' g' k0 ht hv' S'
    walk_at "go"
    with_reducible refine r_newTD ‹Sn _ _ _ _ _› (xs := iis [12, k]) ?_ ?_ ?_
    · exact .cons (.int _ _) (.cons (.int _ _) .nil)
    · intro a s' g2 hv2 hr S'
      walk_at "go"
      exact r_leave S' en (own := [(dA, oD), (tA, lstO vs' n')]) (by walk_at "led") rfl ⟨_, vs', n', hr, .inl ⟨k, k0, .inr rfl⟩, rfl, ht⟩
    · walk_at "sz"
  walk_at "go"
  with_reducible refine i_b (fun hb => ?_) (fun hb => ?_)
  · walk_at "go"
    with_reducible refine r_newL ‹Sn _ _ _ _ _› ?_ (by walk_at "sz"); intro la _ _ S1
    with_reducible refine e_comp (cl := [("draw", L + 1)]) (by rw [he]; with_unfolding_all rfl) (by with_unfolding_all rfl) (by kernel_rfl) ?_ (by intro _; with_unfolding_all rfl)
    walk_at "go"
    with_reducible refine r_next ‹Sn _ _ _ _ _› (r.le (Nat.le_succ _)) (by walk_at "led") T (by decide) hD hv ?_
    intro k tk vs' n' s' g' k0 k1 ht hv' S'
    walk_at "go"
    with_reducible refine call_range ‹Sn _ _ _ _ _› ?_; intro ra _ _ _ _ _
    with_reducible refine iter_range ‹Sn _ _ _ _ _› (by walk_at "led") (by walk_at "om") (by walk_at "om") ?_; intro I o s' S' hI
    refine comp_itr (own := [(dA, oD), (tA, lstO vs' n')]) (mc0 := [("k", .loc none), ("draw", .ro (L + 1) (.ref dA))]) (gls := [("_law_label", .ref 481)]) itr_range  (fun mc => ∃ u, mc = ([("k", .loc u), ("draw", .ro (L + 1) (.ref dA))] : Loc))  (fun i g own vs => ∃ tv tn ls, own = [(dA, oD), (tA, lstO tv tn)] ∧ TapeOk tv ∧ IntsAre vs ls ∧ ls.length = i ∧ i ≤ (1 + k).toNat ∧ ∀ l ∈ ls, In6 l) he ?hok ?gb ?sl ⟨_, rfl⟩ r.hd .name (.inl rfl) ‹Sn _ _ _ _ _› (by walk_at "led") hI ⟨_, _, [], rfl, ht, .nil, rfl, Nat.zero_le _, by simp⟩ ?len ?step ?fin
    case hok => kernel_rfl
    case gb => exact T.glb (by walk_at "gls")
    case sl => exact .loc (by kernel_rfl) (by kernel_rfl) (.ro (by kernel_rfl) (by kernel_rfl) (by kernel_rfl) (.head _) .nil)
    case len => rintro i g own vs ⟨tv, tn, ls, _, _, hi, hl, h3, _⟩; rw [hi.length]; show ls.length < 2 ^ 24; walk_at "om"
    case step =>
      intro c' C D i v g0 g mc oi own' vs k s E' he' hgl' hG' hi hv hP hT hQ21 hw hQ23 S'
      refine hide5 v mc oi own' vs fun XX hXX => ?_
      obtain ⟨tv, tn, ls, rfl, htv, hia, hll, hlk, h6⟩ := hQ21
      obtain ⟨u, rfl⟩ := hQ23
      have T' : Tp w c'.G0 := by rw [hG']; exact T
      refine hXX _ _ _ _ _ ?_
      clear hXX
      walk_at "go"
      with_reducible refine r_label ‹Sn _ _ _ _ _› r (by walk_at "led") T' hD htv ?_
      intro k2 tk2 vs2 n2 s' g2 k20 ht2 hv2 S'
      refine comp_next (g' := g2) hv2 ⟨_, rfl⟩ ⟨vs2, n2, ls ++ [k2], rfl, ht2, hia.append (.cons _ _ .nil), by simp [hll], by walk_at "om", fun l hl => ?_⟩ rfl (S'.perm (perm_to (X := [(D, lstO vs k), (dA, oD), (tA, lstO vs2 n2)]) (by walk_at "led") (by simp)))
      rcases List.mem_append.mp hl with q | q
      · exact h6 l q
      · rw [List.mem_singleton.mp q]; exact k20
    case fin =>
      intro D g2 own2 vs2 k2 s2 hD2 hv2 hQ8 hw2 S2
      refine hide2 own2 vs2 fun XX hXX => ?_
      obtain ⟨tv, tn, ls, rfl, htv, hia, hll, _, h6⟩ := hQ8
      have hl2 : vs2.length ≤ 3 := by rw [hia.length]; walk_at "om"
      refine hXX _ _ ?_
      clear hXX
      walk_at "go"
      with_reducible refine b_addL S2 (Sn.at S2 (by walk_at "led")) (Sn.at S2 (by walk_at "led")) ?_ (by walk_at "szo"); intro ra2 s3 _ S3
      walk_at "go"
      with_reducible refine r_tupL S3 (Sn.at S3 (by walk_at "led")) ?_ (by walk_at "szo"); intro ta s4 hta S4
      refine Sn.lockK S4 (by walk_at "led") hta fun g4 hv4 hg4 S5 => ?_
      walk_at "go"
      exact r_leave S5 en (own := [(dA, oD), (tA, lstO tv tn)]) (by walk_at "led") rfl ⟨14 :: ls, tv, tn, .tup hg4 (.cons (.int 14 _) (rd_ints hia)), .inr (.inl ⟨ls, rfl, by walk_at "om", by walk_at "om", h6⟩), rfl, htv⟩
  walk_at "go"
  with_reducible refine i_b (fun hb => ?_) (fun hb => ?_)
  · walk_at "go"
    obtain ⟨q1, q2, hD'⟩ := id hD
    with_reducible refine s_dict (v := .int nf q2) ‹Sn _ _ _ _ _› (Sn.at ‹Sn _ _ _ _ _› (by walk_at "led")) hD' (by with_unfolding_all rfl) ?_ (by with_unfolding_all rfl); intro _ _
    walk_at "go"
    with_reducible refine r_next ‹Sn _ _ _ _ _› (r.le (Nat.le_succ _)) (by walk_at "led") T hf hD hv ?_
    intro k tk vs' n' s' g' k0 k1 ht hv' S'
    walk_at "go"
    with_reducible refine r_newTD ‹Sn _ _ _ _ _› (xs := iis [16, k]) ?_ ?_ ?_
    · exact .cons (.int _ _) (.cons (.int _ _) .nil)
    · intro a s' g2 hv2 hr S'
      walk_at "go"
      exact r_leave S' en (own := [(dA, oD), (tA, lstO vs' n')]) (by walk_at "led") rfl ⟨_, vs', n', hr, .inr (.inr (.inl ⟨k, rfl, k0, k1⟩)), rfl, ht⟩
    · walk_at "sz"
  walk_at "go"
  with_reducible refine i_b (fun hb => ?_) (fun hb => ?_)
  · walk_at "go"
    with_reducible refine r_next ‹Sn _ _ _ _ _› (r.le (Nat.le_succ _)) (by walk_at "led") T (by decide) hD hv ?_
    intro k tk vs' n' s' g' k0 k1 ht hv' S'
    walk_at "go"
    with_reducible refine r_next ‹Sn _ _ _ _ _› (r.le (Nat.le_succ _)) (by walk_at "led") T (by decide) hD ht ?_
    intro k2 tk2 vs2 n2 s' g' k02 k12 ht2 hv' S'
    walk_at "go"
    with_reducible refine r_newTD ‹Sn _ _ _ _ _› (xs := iis [17, k, k2]) ?_ ?_ ?_
    · exact .cons (.int _ _) (.cons (.int _ _) (.cons (.int _ _) .nil))
    · intro a s' g2 hv2 hr S'
      walk_at "go"
      exact r_leave S' en (own := [(dA, oD), (tA, lstO vs2 n2)]) (by walk_at "led") rfl ⟨_, vs2, n2, hr, .inr (.inr (.inr (.inl ⟨k, k2, rfl, k0, k1, k02, k12⟩))), rfl, ht2⟩
    · walk_at "sz"
  walk_at "go"
  with_reducible refine i_b (fun hb => ?_) (fun hb => ?_)
  · with_reducible refine x_ret ?_
    with_reducible refine Subscript_ ?_
    with_reducible refine List_ ?_
    with_reducible refine spl_tups (ks := [[15], [0], [18, 0], [19, 1, 0]]) ?_ ?_ ‹Sn _ _ _ _ _› ?_
    · kernel_rfl
    · decide
    intro ws s' g1 hv1 hr1 S1
    with_reducible refine r_newLD ‹Sn _ _ _ _ _› hr1 ?_ (by rw [hr1.length]; decide)
    intro la s' g2 hv2 hr2 S2
    walk_at "go"
    with_reducible refine r_next ‹Sn _ _ _ _ _› (r.le (Nat.le_succ _)) (by walk_at "led") T (by decide) hD hv ?_
    intro k tk vs' n' s' g' k0 k1 ht hv' S'
    walk_at "go"
    obtain ⟨q, rfl⟩ : ∃ q : Nat, k = q := ⟨k.toNat, by walk_at "om"⟩
    obtain ⟨p, hp1, hp2⟩ : ∃ p, ([[15], [0], [18, 0], [19, 1, 0]] : List (List Int))[q]? = some p ∧ (p = [15] ∨ p = [0] ∨ p = [18, 0] ∨ p = [19, 1, 0]) := by
      have h4 : q < 4 := by walk_at "om"
      rcases q with _ | _ | _ | _ | q
      · exact ⟨_, rfl, .inl rfl⟩
      · exact ⟨_, rfl, .inr (.inl rfl)⟩
      · exact ⟨_, rfl, .inr (.inr (.inl rfl))⟩
      · exact ⟨_, rfl, .inr (.inr (.inr rfl))⟩
      · walk_at "om"
    with_reducible refine s_lstD S' (hr2.up hv') (k := q) (x := .tuple (iis p)) (by simp only [List.getElem?_map, hp1, Option.map_some]) (by walk_at "om") ?_ (by with_unfolding_all rfl); intro v hrv
    walk_at "go"
    refine r_leave S' en (own := [(dA, oD), (tA, lstO vs' n')]) (by walk_at "led") rfl ⟨p, vs', n', hrv, ?_, rfl, ht⟩
    rcases hp2 with e | e | e | e
    · exact .inr (.inr (.inr (.inr (.inl e))))
    · exact .inr (.inr (.inr (.inr (.inr (.inl e)))))
    · exact .inr (.inr (.inr (.inr (.inr (.inr (.inl e))))))
    · exact .inr (.inr (.inr (.inr (.inr (.inr (.inr (.inl e)))))))
  walk_at "go"
  with_reducible refine r_call0L ‹Sn _ _ _ _ _› (r.le (Nat.le_succ _)) (sp_spans T) ?_
  intro a1 _ _ s1 g1 S1 hv1 hr1 _ _
  walk_at "go"
  with_reducible refine r_call0L ‹Sn _ _ _ _ _› (r.le (Nat.le_succ _)) (sp_spans T) ?_
  intro a2 _ _ s2 g2 S2 hv2 hr2 _ _
  walk_at "go"
  with_reducible refine r_lenLD ‹Sn _ _ _ _ _› hr2 (by decide +kernel) ?_; intro _ _ _
  walk_at "go"
  with_reducible refine r_next ‹Sn _ _ _ _ _› (r.le (Nat.le_succ _)) (by walk_at "led") T ?_ hD hv ?_
  · decide +kernel
  intro k tk vs' n' s' g' k0 k1 ht hv' S'
  walk_at "go"
  obtain ⟨q, rfl⟩ : ∃ q : Nat, k = q := ⟨k.toNat, by walk_at "om"⟩
  have hq : q < 41 := Int.ofNat_lt.mp (show (q : Int) < ((41 : Nat) : Int) from k1)
  obtain ⟨first, last, takes, puts, many, hsp, hmany⟩ : ∃ first last takes puts many, spansL[q]? = some [first, last, takes, puts, many] ∧ 0 ≤ many ∧ many ≤ 2 ∧ first ≤ last := by
    exact spans_at hq
  with_reducible refine s_lstD S' (hr1.up (hv2.trans hv')) (k := q) (x := .tuple (iis [first, last, takes, puts, many])) (by simp only [List.getElem?_map, hsp, Option.map_some]) (by walk_at "om") ?_ (by with_unfolding_all rfl); intro v hrv
  obtain ⟨ta, us, un, rfl, hgu, hru⟩ := hrv.tup_inv
  obtain ⟨t1, t2, t3, t4, t5, rfl⟩ : ∃ t1 t2 t3 t4 t5, us = [.int first t1, .int last t2, .int takes t3, .int puts t4, .int many t5] := by
    have := ints_rd hru
    cases this with | cons _ t1 h => cases h with | cons _ t2 h => cases h with | cons _ t3 h => cases h with | cons _ t4 h => cases h with | cons _ t5 h => cases h; exact ⟨_, _, _, _, _, rfl⟩
  refine a_tup S' r.hd (S'.sub _ _ hgu) (by with_unfolding_all rfl) (by with_unfolding_all rfl) ?_; intro s5 S5
  walk_at "go"
  refine i_join (J := fun v s6 => ∃ cv t vs6 n6 g6, v = .int cv t ∧ first ≤ cv ∧ cv ≤ last ∧ TapeOk vs6 ∧ VSub g' g6 ∧ Sn c g6 [("draw", .cell (L + 1) (some (.ref dA))), ("pick", .loc (some (.int pick tk0))), ("first", .loc (some (.int first t1))), ("last", .loc (some (.int last t2))), ("takes", .loc (some (.int takes t3))), ("puts", .loc (some (.int puts t4))), ("many", .loc (some (.int many t5))), ("code", .loc none)] [(dA, oD), (tA, lstO vs6 n6)] s6) ?_ ?_
  · with_reducible refine i_dec (fun hlt => ?_) (fun hlt => ?_)
    · walk_at "go"
      with_reducible refine r_next ‹Sn _ _ _ _ _› (r.le (Nat.le_succ _)) (by walk_at "led") T (by walk_at "om") hD ht ?_
      intro k tk vs6 n6 s' g6 k0 k1 ht6 hv6 S'
      walk_at "go"
      refine ⟨_, _, vs6, n6, g6, rfl, by walk_at "om", by walk_at "om", ht6, hv6, by assumption⟩
    · walk_at "go"
      refine ⟨_, _, vs', n', g', rfl, Int.le_refl _, by walk_at "om", ht, VSub.refl _, by assumption⟩
  rintro v s6 ⟨cv, t, vs6, n6, g6, rfl, c0, c1, ht6, hv6, S6⟩
  walk_at "go"
  with_reducible refine r_newL ‹Sn _ _ _ _ _› ?_ (by walk_at "sz"); intro la _ _ S1
  with_reducible refine e_comp (cl := [("draw", L + 1)]) (by rw [he]; with_unfolding_all rfl) (by with_unfolding_all rfl) (by kernel_rfl) ?_ (by intro _; with_unfolding_all rfl)
  walk_at "go"
  with_reducible refine call_range ‹Sn _ _ _ _ _› ?_; intro ra _ _ _ _ _
  with_reducible refine iter_range ‹Sn _ _ _ _ _› (by walk_at "led") (by walk_at "om") (by walk_at "om") ?_; intro I o s' S' hI
  refine comp_itr (own := [(dA, oD), (tA, lstO vs6 n6)]) (mc0 := [("k", .loc none), ("draw", .ro (L + 1) (.ref dA))]) (gls := [("_law_next", .ref 467)]) itr_range  (fun mc => ∃ u, mc = ([("k", .loc u), ("draw", .ro (L + 1) (.ref dA))] : Loc))  (fun i g own vs => ∃ tv tn ls, own = [(dA, oD), (tA, lstO tv tn)] ∧ TapeOk tv ∧ IntsAre vs ls ∧ ls.length = i ∧ i ≤ many.toNat ∧ ∀ l ∈ ls, -3 ≤ l ∧ l < 6) he ?hok ?gb ?sl ⟨_, rfl⟩ r.hd .name (.inl rfl) ‹Sn _ _ _ _ _› (by walk_at "led") hI ⟨_, _, [], rfl, ht6, .nil, rfl, Nat.zero_le _, by simp⟩ ?len ?step ?fin
  case hok => kernel_rfl
  case gb => exact T.glb (by walk_at "gls")
  case sl => exact .loc (by kernel_rfl) (by kernel_rfl) (.ro (by kernel_rfl) (by kernel_rfl) (by kernel_rfl) (.head _) .nil)
  case len => rintro i g own vs ⟨tv, tn, ls, _, _, hi, hl, h3, _⟩; rw [hi.length]; show ls.length < 2 ^ 24; walk_at "om"
  case step =>
    intro c' C D i v g0 g mc oi own' vs k s E' he' hgl' hG' hi hv hP hT hQ21 hw hQ23 S'
    refine hide5 v mc oi own' vs fun XX hXX => ?_
    obtain ⟨tv, tn, ls, rfl, htv, hia, hll, hlk, h6⟩ := hQ21
    obtain ⟨u, rfl⟩ := hQ23
    have T' : Tp w c'.G0 := by rw [hG']; exact T
    refine hXX _ _ _ _ _ ?_
    clear hXX
    walk_at "go"
    with_reducible refine r_next ‹Sn _ _ _ _ _› (r.le (Nat.le_succ _)) (by walk_at "led") T' (by decide) hD htv ?_
    intro k2 tk2 vs2 n2 s' g2 k20 k21 ht2 hv2 S'
    walk_at "go"
    refine comp_next (g' := g2) hv2 ⟨_, rfl⟩ ⟨vs2, n2, ls ++ [k2 - 3], rfl, ht2, hia.append (.cons _ _ .nil), by simp [hll], by walk_at "om", fun l hl => ?_⟩ rfl (Sn.perm ‹Sn _ _ _ _ _› (perm_to (X := [(D, lstO vs k), (dA, oD), (tA, lstO vs2 n2)]) (by walk_at "led") (by simp)))
    rcases List.mem_append.mp hl with q | q
    · exact h6 l q
    · rw [List.mem_singleton.mp q]; walk_at "om"
  case fin =>
    intro D g2 own2 vs2 k2 s2 hD2 hv2 hQ8 hw2 S2
    refine hide2 own2 vs2 fun XX hXX => ?_
    obtain ⟨tv, tn, ls, rfl, htv, hia, hll, _, h6⟩ := hQ8
    have hl2 : vs2.length ≤ 3 := by rw [hia.length]; walk_at "om"
    refine hXX _ _ ?_
    clear hXX
    walk_at "go"
    with_reducible refine b_addL S2 (Sn.at S2 (by walk_at "led")) (Sn.at S2 (by walk_at "led")) ?_ (by walk_at "szo"); intro ra2 s3 _ S3
    walk_at "go"
    with_reducible refine r_tupL S3 (Sn.at S3 (by walk_at "led")) ?_ (by walk_at "szo"); intro ta s4 hta S4
    refine Sn.lockK S4 (by walk_at "led") hta fun g4 hv4 hg4 S5 => ?_
    walk_at "go"
    exact r_leave S5 en (own := [(dA, oD), (tA, lstO tv tn)]) (by walk_at "led") rfl ⟨cv :: ls, tv, tn, .tup hg4 (.cons (.int _ _) (rd_ints hia)), .inr (.inr (.inr (.inr (.inr (.inr (.inr (.inr ⟨q, first, last, takes, puts, many, cv, ls, hq, hsp, c0, c1, rfl, by walk_at "om", h6⟩))))))), rfl, htv⟩


-- F4
inductive Nd where
  | leaf (p : List Int)
  | one (p : List Int) (f : List Nd)
  | two (p : List Int) (f s : List Nd)
mutual
noncomputable def nodeD : Nd → PyData
  | .leaf p => .tuple [.tuple (iis p), .none, .none]
  | .one p f => .tuple [.tuple (iis p), .list (treeD f), .none]
  | .two p f s => .tuple [.tuple (iis p), .list (treeD f), .list (treeD s)]
noncomputable def treeD : List Nd → List PyData
  | [] => []
  | n :: r => nodeD n :: treeD r
end
mutual
noncomputable def cntN : Nd → Nat
  | .leaf _ => 1
  | .one _ f => 1 + cntT f
  | .two _ f s => 1 + cntT f + cntT s
noncomputable def cntT : List Nd → Nat
  | [] => 0
  | n :: r => cntN n + cntT r
end
noncomputable abbrev KindOk (a : Int) : Prop := a = -64 ∨ a = 0 ∨ a = -1 ∨ a = 1 ∨ a = 2 ∨ a = -17
mutual
noncomputable def NodeOk (nf : Int) : Nat → Nd → Prop
  | _, .leaf p => LeafOk nf p
  | 0, .one _ _ => False
  | 0, .two _ _ _ => False
  | d + 1, .one p f => (∃ b a, p = [b, a] ∧ (b = 2 ∨ b = 3 ∨ b = 4) ∧ KindOk a) ∧ TreeOk nf d f
  | d + 1, .two p f s => (∃ a, p = [4, a] ∧ KindOk a) ∧ TreeOk nf d f ∧ TreeOk nf d s
noncomputable def TreeOk (nf : Int) : Nat → List Nd → Prop
  | _, [] => True
  | d, n :: r => NodeOk nf d n ∧ TreeOk nf d r
end
theorem treeD_app : ∀ (a b : List Nd), treeD (a ++ b) = treeD a ++ treeD b
  | [], _ => rfl
  | n :: r, b => by simp [treeD, treeD_app r b]
theorem treeD_len : ∀ t : List Nd, (treeD t).length = t.length
  | [] => rfl
  | n :: r => by simp [treeD, treeD_len r]
theorem cntT_app : ∀ (a b : List Nd), cntT (a ++ b) = cntT a + cntT b
  | [], _ => by simp [cntT]
  | n :: r, b => by simp [cntT, cntT_app r b]; walk_at "om"
theorem TreeOk_app {nf : Int} {d : Nat} : ∀ {a b : List Nd}, TreeOk nf d a → TreeOk nf d b → TreeOk nf d (a ++ b)
  | [], _, _, h => h
  | n :: r, b, h1, h => by
    cases d <;> exact ⟨h1.1, TreeOk_app h1.2 h⟩

noncomputable def PTree (w : World) (dA tA : Addr) (left nf : Int) (dep : Nat) : Value → Vis → Led → Prop := fun v g' own' => ∃ t oD' left' vs' n', Rd g' v (.list (treeD t)) ∧ TreeOk nf dep t ∧ DrawD w tA left' nf oD' ∧ own' = [(dA, oD'), (tA, lstO vs' n')] ∧ TapeOk vs' ∧ 0 ≤ left' ∧ left' + cntT t ≤ left
noncomputable def PNode (w : World) (dA tA : Addr) (left nf : Int) (dep : Nat) : Value → Vis → Led → Prop := fun v g' own' => ∃ t oD' left' vs' n', Rd g' v (nodeD t) ∧ NodeOk nf dep t ∧ DrawD w tA left' nf oD' ∧ own' = [(dA, oD'), (tA, lstO vs' n')] ∧ TapeOk vs' ∧ 0 ≤ left' ∧ left' + cntN t ≤ left + 1
noncomputable abbrev TreeSpec (w : World) (G0 : Heap) (d dep : Nat) : Prop := ∀ (g : Vis) (dA tA : Addr) (oD : Obj) (vs : List Value) (n : Nat) (left nf : Int) (tk : Tok), 0 < nf → 0 ≤ left → DrawD w tA left nf oD → TapeOk vs →
  Ct pw w G0 d (.ref 500) [.ref dA, .int dep tk] g [(dA, oD), (tA, lstO vs n)] (PTree w dA tA left nf dep)
noncomputable abbrev NodeSpec (w : World) (G0 : Heap) (d dep : Nat) : Prop := ∀ (g : Vis) (dA tA : Addr) (oD : Obj) (vs : List Value) (n : Nat) (left nf : Int) (tk : Tok), 0 < nf → 0 ≤ left → DrawD w tA left nf oD → TapeOk vs →
  Ct pw w G0 d (.ref 493) [.ref dA, .int dep tk] g [(dA, oD), (tA, lstO vs n)] (PNode w dA tA left nf dep)
set_option maxHeartbeats 1000000 in
theorem sp_node {w : World} {G0 : Heap} (T : Tp w G0) {d dep : Nat} (IH : ∀ e, dep = e + 1 → TreeSpec w G0 (d + 3) e) : NodeSpec w G0 (d + 4) dep := by
  intro g dA tA oD vs n left nf tk0 hf hl0 hD hv
  refine ent (gls := [("_law_next", .ref 467), ("_law_tree", .ref 500), ("_law_plain", .ref 486)]) (m := [("draw", .loc (some (.ref dA))), ("depth", .loc (some (.int dep tk0))), ("pick", .loc none), ("plain", .loc none), ("first", .loc none)]) (binds := [("draw", .ref dA), ("depth", .int dep tk0)]) (rest := ["pick", "plain", "first"]) (T.K 493 o493 (by kernel_rfl)) (show o493.data = .func fd493 from rfl) T.nolim (codeRec_of T.K (by kernel_rfl)) rfl rfl rfl (fun _ _ => BindsTo.of_eq rfl) rfl (by kernel_rfl) (T.glb (by walk_at "gls")) ?_
  intro c s A r hG hgl he en S
  subst hG
  walk_at "go"
  with_reducible refine r_next (d := 0) ‹Sn _ _ _ _ _› (r.le (Nat.le_add_left 1 (d + 2))) (by walk_at "led") T (by decide) hD hv ?_
  intro k tk1 vs1 n1 s' g1 k0 k1 ht1 hv1 S1
  obtain ⟨q, rfl⟩ : ∃ q : Nat, k = q := ⟨k.toNat, by walk_at "om"⟩
  walk_at "go"
  with_reducible refine i_dec (fun h1 => ?b1) (fun h1 => ?c1)
  case' b1 =>
    walk_at "go"
    with_reducible refine i_dec (fun h2 => ?b2) (fun h2 => ?c2)
  case b2 =>
      obtain ⟨e, rfl⟩ : ∃ e, dep = e + 1 := ⟨dep - 1, by walk_at "om"⟩
      have hq4 : q < 4 := by walk_at "om"
      obtain ⟨b, hb, hb2⟩ : ∃ b, ([2, 3, 4, 4] : List Int)[q]? = some b ∧ ((b = 2 ∨ b = 3 ∨ b = 4) ∧ (q = 3 → b = 4)) := by
        rcases q with _ | _ | _ | _ | q
        · exact ⟨_, rfl, by decide⟩
        · exact ⟨_, rfl, by decide⟩
        · exact ⟨_, rfl, by decide⟩
        · exact ⟨_, rfl, by decide⟩
        · walk_at "om"
      walk_at "go"
      with_reducible refine r_newLD ‹Sn _ _ _ _ _› (xs := iis [2, 3, 4, 4]) ?_ ?_ (by walk_at "sz")
      · exact .cons (.int _ _) (.cons (.int _ _) (.cons (.int _ _) (.cons (.int _ _) .nil)))
      intro la s2 g2 hv2 hr2 S2
      walk_at "go"
      with_reducible refine s_lstD ‹Sn _ _ _ _ _› hr2 (k := q) (x := .int b) (by simp only [List.getElem?_map, hb, Option.map_some]) (by walk_at "om") ?_ (by with_unfolding_all rfl)
      intro bv hbv
      obtain ⟨tb, rfl⟩ := hbv.int_inv
      walk_at "go"
      with_reducible refine r_newLD ‹Sn _ _ _ _ _› (xs := iis [-64, 0, -1, 1, 2, -17]) ?_ ?_ (by walk_at "sz")
      · exact .cons (.int _ _) (.cons (.int _ _) (.cons (.int _ _) (.cons (.int _ _) (.cons (.int _ _) (.cons (.int _ _) .nil)))))
      intro lb s3 g3 hv3 hr3 S3
      walk_at "go"
      with_reducible refine r_next (d := 0) ‹Sn _ _ _ _ _› (r.le (Nat.le_add_left 1 (d + 2))) (by walk_at "led") T (by decide) hD ht1 ?_
      intro k4 tk4 vs4 n4 s' g4 k40 k41 ht4 hv4 S4
      obtain ⟨q4, rfl⟩ : ∃ q : Nat, k4 = q := ⟨k4.toNat, by walk_at "om"⟩
      have hq6 : q4 < 6 := by walk_at "om"
      obtain ⟨a, ha, ha2⟩ : ∃ a, ([-64, 0, -1, 1, 2, -17] : List Int)[q4]? = some a ∧ KindOk a := by
        rcases q4 with _ | _ | _ | _ | _ | _ | q4
        · exact ⟨_, rfl, by decide⟩
        · exact ⟨_, rfl, by decide⟩
        · exact ⟨_, rfl, by decide⟩
        · exact ⟨_, rfl, by decide⟩
        · exact ⟨_, rfl, by decide⟩
        · exact ⟨_, rfl, by decide⟩
        · walk_at "om"
      walk_at "go"
      with_reducible refine s_lstD ‹Sn _ _ _ _ _› (hr3.up hv4) (k := q4) (x := .int a) (by simp only [List.getElem?_map, ha, Option.map_some]) (by walk_at "om") ?_ (by with_unfolding_all rfl)
      intro av hav
      obtain ⟨ta, rfl⟩ := hav.int_inv
      walk_at "go"
      with_reducible refine r_newTD ‹Sn _ _ _ _ _› (xs := iis [b, a]) ?_ ?_ (by walk_at "sz")
      · exact .cons (.int _ _) (.cons (.int _ _) .nil)
      intro pa s5 g5 hv5 hr5 S5
      walk_at "go"
      have ed : ((e + 1 : Nat) : Int) - 1 = (e : Int) := by walk_at "om"
      rw [ed]
      have hrm : d + 3 ≤ d + 3 := Nat.le_refl _
      with_reducible refine r_call ‹Sn _ _ _ _ _› r (by walk_at "led") (IH e rfl _ _ _ _ _ _ _ _ _ hf hl0 hD ht4) ?_
      rintro v s6 g6 own6 S6 hv6 hw6 ⟨tf, oD6, left6, vs6, n6, hr6, hok6, hD6, rfl, ht6, hl6, hc6⟩
      walk_at "go"
      with_reducible refine i_b (fun h3 => ?b3) (fun h3 => ?c3)
      case b3 =>
        walk_at "go"
        rw [ed]
        with_reducible refine r_call ‹Sn _ _ _ _ _› r (by walk_at "led") (IH e rfl _ _ _ _ _ _ _ _ _ hf hl6 hD6 ht6) ?_
        rintro v7 s7 g7 own7 S7 hv7 hw7 ⟨ts, oD7, left7, vs7, n7, hr7, hok7, hD7, rfl, ht7, hl7, hc7⟩
        walk_at "go"
        have hb4 : b = 4 := hb2.2 (by simp only [beq_iff_eq] at h3; walk_at "om")
        subst hb4
        with_reducible refine r_newTD ‹Sn _ _ _ _ _› (.cons (hr5.up (hv6.trans hv7)) (.cons (hr6.up hv7) (.cons hr7 .nil))) ?_ (by walk_at "sz")
        intro ra s8 g8 hv8 hr8 S8
        walk_at "go"
        exact r_leave S8 en (own := [(dA, oD7), (tA, lstO vs7 n7)]) (by walk_at "led") rfl ⟨.two [4, a] tf ts, oD7, left7, vs7, n7, hr8, ⟨⟨a, rfl, ha2⟩, hok6, hok7⟩, hD7, rfl, ht7, hl7, by simp only [cntN]; walk_at "om"⟩
      case c3 =>
        walk_at "go"
        with_reducible refine r_newTD ‹Sn _ _ _ _ _› (.cons (hr5.up hv6) (.cons hr6 (.cons .none .nil))) ?_ (by walk_at "sz")
        intro ra s8 g8 hv8 hr8 S8
        walk_at "go"
        exact r_leave S8 en (own := [(dA, oD6), (tA, lstO vs6 n6)]) (by walk_at "led") rfl ⟨.one [b, a] tf, oD6, left6, vs6, n6, hr8, ⟨⟨b, a, rfl, hb2.1, ha2⟩, hok6⟩, hD6, rfl, ht6, hl6, by simp only [cntN]; walk_at "om"⟩
  all_goals
    walk_at "go"
    refine i_join (J := fun v s6 => ∃ cv t, v = .int cv t ∧ 0 ≤ cv ∧ cv < 7 ∧ Sn c g1 [("draw", .loc (some (.ref dA))), ("depth", .loc (some (.int dep tk0))), ("pick", .loc (some (.int q tk1))), ("plain", .loc none), ("first", .loc none)] ([(dA, oD), (tA, lstO vs1 n1)] ++ []) s6) ?_ ?_
    · with_reducible refine i_dec (fun hlt => ?_) (fun hlt => ?_)
      · walk_at "go"
        exact ⟨_, _, rfl, by walk_at "om", by walk_at "om", by assumption⟩
      · walk_at "go"
        with_reducible refine b_mod ‹Sn _ _ _ _ _› (by decide) ?_; intro _ _ _
        exact ⟨_, _, rfl, Int.fmod_nonneg_of_pos _ (by decide), Int.fmod_lt_of_pos _ (by decide), by assumption⟩
    rintro v s6 ⟨cv, t, rfl, c0, c1, S6⟩
    walk_at "go"
    with_reducible refine r_call ‹Sn _ _ _ _ _› r (by walk_at "led") (sp_plain T hf hD ht1 ⟨c0, c1⟩) ?_
    rintro v7 s7 g7 own7 S7 hv7 hw7 ⟨p, vs7, n7, hr7, hok7, rfl, ht7⟩
    walk_at "go"
    with_reducible refine r_newTD ‹Sn _ _ _ _ _› (.cons hr7 (.cons .none (.cons .none .nil))) ?_ (by walk_at "sz")
    intro ra s8 g8 hv8 hr8 S8
    walk_at "go"
    exact r_leave S8 en (own := [(dA, oD), (tA, lstO vs7 n7)]) (by walk_at "led") rfl ⟨.leaf p, oD, left, vs7, n7, hr8, by cases dep <;> exact hok7, hD, rfl, ht7, hl0, by simp only [cntN]; walk_at "om"⟩

theorem draw_set {w : World} {tA : Addr} {left funcs left' : Int} {t : Tok} {oD oD' : Obj} {t1 t2 : Tok} (_h : oD.IsDictOf (strKind pw w) [(("tape" : Str), .ref tA), (("left" : Str), .int left t1), (("funcs" : Str), .int funcs t2)])
    (h : oD'.IsDictOf (strKind pw w) (stored [(("tape" : Str), .ref tA), (("left" : Str), .int left t1), (("funcs" : Str), .int funcs t2)] "left" (.int left' t))) : DrawD w tA left' funcs oD' := ⟨t, t2, h⟩
set_option maxHeartbeats 1000000 in
theorem sp_tree {w : World} {G0 : Heap} (T : Tp w G0) {d dep : Nat} (H : NodeSpec w G0 (d + 1) dep) : TreeSpec w G0 (d + 2) dep := by
  intro g dA tA oD vs n left nf tk0 hf hl0 hD hv
  refine ent (gls := [("range", .type "range"), ("_law_next", .ref 467), ("_law_node", .ref 493)]) (m := [("draw", .loc (some (.ref dA))), ("depth", .loc (some (.int dep tk0))), ("found", .loc none), ("k", .loc none)]) (binds := [("draw", .ref dA), ("depth", .int dep tk0)]) (rest := ["found", "k"]) (T.K 500 o500 (by kernel_rfl)) (show o500.data = .func fd500 from rfl) T.nolim (codeRec_of T.K (by kernel_rfl)) rfl rfl rfl (fun _ _ => BindsTo.of_eq rfl) rfl (by kernel_rfl) (T.glb (by walk_at "gls")) ?_
  intro c s A r hG hgl he en S
  subst hG
  walk_at "go"
  with_reducible refine r_newL ‹Sn _ _ _ _ _› ?_ (by walk_at "sz"); intro la _ hla S1
  walk_at "go"
  with_reducible refine r_next (d := 0) ‹Sn _ _ _ _ _› (r.le (Nat.le_add_left 1 d)) (by walk_at "led") T (by decide) hD hv ?_
  intro k tk1 vs1 n1 s' g1 k0 k1 ht1 hv1 S1
  walk_at "go"
  with_reducible refine b_mod ‹Sn _ _ _ _ _› (by decide) ?_; intro _ _ _
  have r0 : 0 ≤ Int.fmod (k + 2) 4 := Int.fmod_nonneg_of_pos _ (by decide)
  have r1 : Int.fmod (k + 2) 4 < 4 := Int.fmod_lt_of_pos _ (by decide)
  generalize Int.fmod (k + 2) 4 = kk at r0 r1 ⊢
  walk_at "go"
  with_reducible refine call_range ‹Sn _ _ _ _ _› ?_; intro ra _ _ _ _ _
  with_reducible refine iter_range ‹Sn _ _ _ _ _› (by walk_at "led") r0 (by walk_at "om") ?_; intro I o s' S' hI
  refine for_itr itr_range (fun i g m news => VSub g1 g ∧ ∃ t oD' left' vs' n' fvs fn u, news = [(dA, oD'), (tA, lstO vs' n'), (la, lstO fvs fn)] ∧ RdAll g fvs (treeD t) ∧ t.length ≤ i ∧ TreeOk nf dep t ∧ DrawD w tA left' nf oD' ∧ TapeOk vs' ∧ 0 ≤ left' ∧ left' + cntT t ≤ left ∧  m = ([("draw", .loc (some (.ref dA))), ("depth", .loc (some (.int dep tk0))), ("found", .loc (some (.ref la))), ("k", .loc u)] : Loc)) r.hd .name (.inl rfl) (S'.perm (perm_to (X := [(dA, oD), (tA, lstO vs1 n1), (la, lstO [] 0)]) (by walk_at "led") rfl)) hI ⟨VSub.refl _, [], oD, left, vs1, n1, [], 0, _, rfl, .nil, Nat.le_refl _, trivial, hD, ht1, hl0, by simp [cntT], rfl⟩ ?step ?fin
  case step =>
    intro i v g0 g m own news s E' hi hv0 hQ11 hT hQ13 S'
    refine hide4 v m own news fun XX hXX => ?_
    obtain ⟨tv, rfl⟩ := hQ11
    obtain ⟨hvs, t, oD', left', vs', n', fvs, fn, u, rfl, hrd, hlen, htok, hD1, htp, hl1, hcnt, rfl⟩ := hQ13
    refine hXX _ _ _ _ ?_
    clear hXX
    walk_at "go"
    obtain ⟨q1, q2, hD2⟩ := id hD1
    with_reducible refine s_dict (v := .int left' q1) ‹Sn _ _ _ _ _› (Sn.at ‹Sn _ _ _ _ _› (by walk_at "led")) hD2 (by with_unfolding_all rfl) ?_ (by with_unfolding_all rfl); intro _ _
    walk_at "go"
    with_reducible refine i_dec (fun h1 => ?_) (fun h1 => ?_)
    · walk_at "go"
      with_reducible refine s_dict (v := .int left' q1) ‹Sn _ _ _ _ _› (Sn.at ‹Sn _ _ _ _ _› (by walk_at "led")) hD2 (by with_unfolding_all rfl) ?_ (by with_unfolding_all rfl); intro _ _
      walk_at "go"
      with_reducible refine d_set ‹Sn _ _ _ _ _› (by walk_at "led") hD2 ?_ (by walk_at "sz")
      intro oD3 s3 hD3' S3
      have hD3 := draw_set hD2 hD3'
      have S4 := S3 (own ++ [(dA, oD3), (tA, lstO vs' n'), (la, lstO fvs fn)]) (by walk_at "led")
      walk_at "go"
      with_reducible refine r_call ‹Sn _ _ _ _ _› r (by walk_at "led") (H _ _ _ _ _ _ _ _ _ hf (by walk_at "om") hD3 htp) ?_
      rintro v5 s5 g5 own5 S5 hv5 hw5 ⟨nd, oD5, left5, vs5, n5, hr5, hok5, hD5, rfl, ht5, hl5, hc5⟩
      walk_at "go"
      have hfl : fvs.length ≤ 3 := by rw [hrd.length, treeD_len]; walk_at "om"
      with_reducible refine r_app ‹Sn _ _ _ _ _› (by walk_at "led") ?_ (by walk_at "szo"); intro s6 S6
      walk_at "go"
      refine loop_next (g' := g5) hv5 ⟨(hvs.trans hv0).trans hv5, t ++ [nd], oD5, left5, vs5, n5, fvs ++ [v5], fn + 1, _, rfl, ?_, by simp; walk_at "om", TreeOk_app htok ?_, hD5, ht5, hl5, ?_, rfl⟩ (Sn.perm S6 (perm_to (X := [(dA, oD5), (tA, lstO vs5 n5), (la, lstO (fvs ++ [v5]) (fn + 1))]) (by walk_at "led") (by simp)))
      · rw [treeD_app]; exact RdAll.append (hrd.up (hv0.trans hv5)) (.cons hr5 .nil)
      · cases dep <;> exact ⟨hok5, trivial⟩
      · rw [cntT_app]; simp only [cntT]; walk_at "om"
    · walk_at "go"
      refine loop_next (g' := g) (VSub.refl g) ⟨hvs.trans hv0, t, oD', left', vs', n', fvs, fn, _, rfl, hrd.up hv0, by walk_at "om", htok, hD1, htp, hl1, hcnt, rfl⟩ (by assumption)
  case fin =>
    intro g m news s hQ4 S'
    refine hide2 m news fun XX hXX => ?_
    obtain ⟨hvs, t, oD', left', vs', n', fvs, fn, u, rfl, hrd, hlen, htok, hD1, htp, hl1, hcnt, rfl⟩ := hQ4
    refine hXX _ _ ?_
    clear hXX
    walk_at "go"
    refine Sn.lockK ‹Sn _ _ _ _ _› (a := la) (by walk_at "led") hla fun g4 hv4 hg4 S5 => ?_
    walk_at "go"
    exact r_leave S5 en (own := [(dA, oD'), (tA, lstO vs' n')]) (by walk_at "led") rfl ⟨t, oD', left', vs', n', .lst hg4 (hrd.up hv4), htok, hD1, rfl, htp, hl1, hcnt⟩


-- F5
noncomputable abbrev plsD (l : List (List Int)) : List PyData := l.map fun p => .tuple (iis p)
mutual
noncomputable def flatN : Nd → List (List Int)
  | .leaf p => [p]
  | .one p f => p :: (flatT f ++ [[11]])
  | .two p f s => p :: (flatT f ++ ([5] :: flatT s) ++ [[11]])
noncomputable def flatT : List Nd → List (List Int)
  | [] => []
  | n :: r => flatN n ++ flatT r
end
theorem plsD_app (a b : List (List Int)) : plsD (a ++ b) = plsD a ++ plsD b := List.map_append
theorem flatT_app : ∀ a b : List Nd, flatT (a ++ b) = flatT a ++ flatT b
  | [], _ => rfl
  | n :: r, b => by simp [flatT, flatT_app r b]
mutual
theorem flatN_len : ∀ n : Nd, (flatN n).length ≤ 3 * cntN n
  | .leaf p => by simp [flatN, cntN]
  | .one p f => by have := flatT_len f; simp [flatN, cntN]; walk_at "om"
  | .two p f s => by have := flatT_len f; have := flatT_len s; simp [flatN, cntN]; walk_at "om"
theorem flatT_len : ∀ t : List Nd, (flatT t).length ≤ 3 * cntT t
  | [] => by simp [flatT]
  | n :: r => by have := flatN_len n; have := flatT_len r; simp [flatT, cntT]; walk_at "om"
end
mutual
noncomputable def dpN : Nd → Nat
  | .leaf _ => 0
  | .one _ f => 1 + dpT f
  | .two _ f s => 1 + max (dpT f) (dpT s)
noncomputable def dpT : List Nd → Nat
  | [] => 0
  | n :: r => max (dpN n) (dpT r)
end
theorem cntT_take (t : List Nd) (i : Nat) : cntT (t.take i) ≤ cntT t := by
  have := cntT_app (t.take i) (t.drop i)
  rw [List.take_append_drop] at this
  walk_at "om"
theorem take_succ_get {α : Type} {l : List α} {i : Nat} {x : α} (h : l[i]? = some x) : l.take (i + 1) = l.take i ++ [x] := by
  rw [List.take_add_one, h]; rfl
theorem cnt_get : ∀ {t : List Nd} {i : Nat} {n : Nd}, t[i]? = some n → cntN n ≤ cntT t
  | [], _, _, h => by simp at h
  | m :: r, 0, n, h => by cases h; simp [cntT]
  | m :: r, i + 1, n, h => by have := cnt_get (t := r) (by simpa using h); simp [cntT]; walk_at "om"
theorem dp_get : ∀ {t : List Nd} {i : Nat} {n : Nd}, t[i]? = some n → dpN n ≤ dpT t
  | [], _, _, h => by simp at h
  | m :: r, 0, n, h => by cases h; simp [dpT]; walk_at "om"
  | m :: r, i + 1, n, h => by have := dp_get (t := r) (by simpa using h); simp [dpT]; walk_at "om"
theorem treeD_get : ∀ {t : List Nd} {i : Nat} {x : PyData}, (treeD t)[i]? = some x → ∃ n, t[i]? = some n ∧ x = nodeD n
  | [], _, _, h => by simp [treeD] at h
  | m :: r, 0, x, h => by simp [treeD] at h; exact ⟨m, rfl, h.symm⟩
  | m :: r, i + 1, x, h => by simpa using treeD_get (t := r) (by simpa [treeD] using h)

theorem rd_leaf {g : Vis} {v : Value} {p : List Int} (h : Rd g v (nodeD (.leaf p))) : ∃ a pv n, v = .ref a ∧ g a = some { cls := .type "tuple", data := .seq (List.toArray [pv, .none, .none]) n } ∧ Rd g pv (.tuple (iis p)) := by
  obtain ⟨a, us, n, rfl, hg, hr⟩ := Rd.tup_inv h
  cases hr with | cons h1 hr => cases hr with | cons h2 hr => cases hr with | cons h3 hr =>
  cases hr
  obtain rfl := h2.none_inv
  obtain rfl := h3.none_inv
  exact ⟨a, _, n, rfl, hg, h1⟩
theorem rd_one {g : Vis} {v : Value} {p : List Int} {f : List Nd} (h : Rd g v (nodeD (.one p f))) : ∃ a pv fa n, v = .ref a ∧ g a = some { cls := .type "tuple", data := .seq (List.toArray [pv, .ref fa, .none]) n } ∧ Rd g pv (.tuple (iis p)) ∧ Rd g (.ref fa) (.list (treeD f)) := by
  obtain ⟨a, us, n, rfl, hg, hr⟩ := Rd.tup_inv h
  cases hr with | cons h1 hr => cases hr with | cons h2 hr => cases hr with | cons h3 hr =>
  cases hr
  obtain ⟨fa, rfl⟩ := h2.lst_ref
  obtain rfl := h3.none_inv
  exact ⟨a, _, fa, n, rfl, hg, h1, h2⟩
theorem rd_two {g : Vis} {v : Value} {p : List Int} {f s : List Nd} (h : Rd g v (nodeD (.two p f s))) : ∃ a pv fa sa n, v = .ref a ∧ g a = some { cls := .type "tuple", data := .seq (List.toArray [pv, .ref fa, .ref sa]) n } ∧ Rd g pv (.tuple (iis p)) ∧ Rd g (.ref fa) (.list (treeD f)) ∧ Rd g (.ref sa) (.list (treeD s)) := by
  obtain ⟨a, us, n, rfl, hg, hr⟩ := Rd.tup_inv h
  cases hr with | cons h1 hr => cases hr with | cons h2 hr => cases hr with | cons h3 hr =>
  cases hr
  obtain ⟨fa, rfl⟩ := h2.lst_ref
  obtain ⟨sa, rfl⟩ := h3.lst_ref
  exact ⟨a, _, fa, sa, n, rfl, hg, h1, h2, h3⟩
noncomputable abbrev FlatSpec (w : World) (G0 : Heap) (d n : Nat) : Prop := ∀ (g : Vis) (a : Addr) (t : List Nd), dpT t ≤ n → cntT t ≤ 1000 → Rd g (.ref a) (.list (treeD t)) → Ct pw w G0 d (.ref 507) [.ref a] g [] (PData (.list (plsD (flatT t))))
set_option maxHeartbeats 1000000 in
theorem sp_flat1 {w : World} {G0 : Heap} (T : Tp w G0) {d n : Nat} (IH : ∀ e, n = e + 1 → FlatSpec w G0 (d + 1) e) : FlatSpec w G0 (d + 2) n := by
  intro g a t hdp hct hr
  refine ent (gls := [("_law_flat", .ref 507)]) (m := [("tree", .loc (some (.ref a))), ("found", .loc none), ("plain", .loc none), ("first", .loc none), ("second", .loc none)]) (binds := [("tree", .ref a)]) (rest := ["found", "plain", "first", "second"]) (T.K 507 o507 (by kernel_rfl)) (show o507.data = .func fd507 from rfl) T.nolim (codeRec_of T.K (by kernel_rfl)) rfl rfl rfl (fun _ _ => BindsTo.of_eq rfl) rfl (by kernel_rfl) (T.glb (by walk_at "gls")) ?_
  intro c s A r hG hgl he en S
  subst hG
  walk_at "go"
  with_reducible refine r_newL ‹Sn _ _ _ _ _› ?_ (by walk_at "sz"); intro la _ hla S1
  walk_at "go"
  obtain ⟨_, vs, n0, e0, hga, hra⟩ := hr.lst_inv
  cases e0
  have hlen := hra.length
  rw [treeD_len] at hlen
  with_reducible refine iter_list ‹Sn _ _ _ _ _› hga ?_; intro I o s' S' hI
  refine for_itr itr_list (fun i g' m news => VSub g g' ∧ ∃ fvs fn u1 u2 u3, news = [(la, lstO fvs fn)] ∧ RdAll g' fvs (plsD (flatT (t.take i))) ∧ i ≤ t.length ∧  m = ([("tree", .loc (some (.ref a))), ("found", .loc (some (.ref la))), ("plain", .loc u1), ("first", .loc u2), ("second", .loc u3)] : Loc)) r.hd .tup (.inl rfl) S' hI ⟨VSub.refl _, [], 0, _, _, _, rfl, .nil, Nat.zero_le _, rfl⟩ ?step ?fin
  case step =>
    intro i v g0 g1 m own news s E' hi hv0 hP hT hQ13 S'
    refine hide4 v m own news fun XX hXX => ?_
    obtain ⟨hvs, fvs, fn, u1, u2, u3, rfl, hrd, hil, rfl⟩ := hQ13
    obtain ⟨x, hx, hrx⟩ := (hra.up (hvs.trans hv0)).get hP
    obtain ⟨nd, hnd, rfl⟩ := treeD_get hx
    have hc1 := cnt_get hnd
    have hd1 := dp_get hnd
    have hfl : fvs.length ≤ 3000 := by
      rw [hrd.length, List.length_map]
      have := flatT_len (t.take i); have := cntT_take t i; walk_at "om"
    have htk := take_succ_get hnd
    have hi' : i + 1 ≤ t.length := by walk_at "om"
    have hrd' := hrd.up hv0
    refine hXX _ _ _ _ ?_
    clear hXX
    cases nd with
    | leaf p =>
      obtain ⟨ta, pv, un, rfl, hgu, h1⟩ := rd_leaf hrx
      refine a_tup S' r.hd (S'.sub _ _ hgu) (by with_unfolding_all rfl) (by with_unfolding_all rfl) ?_; intro s5 S5
      walk_at "go"
      with_reducible refine r_app ‹Sn _ _ _ _ _› (by walk_at "led") ?_ (by walk_at "szo"); intro s6 S6
      walk_at "go"
      refine loop_next (g' := g1) (VSub.refl _) ⟨hvs.trans hv0, fvs ++ [pv], fn + 1, _, _, _, rfl, ?_, hi', rfl⟩ (by assumption)
      rw [htk, flatT_app, plsD_app]
      exact RdAll.append hrd' (.cons h1 .nil)
    | one p f =>
      obtain ⟨ta, pv, fa, un, rfl, hgu, h1, h2⟩ := rd_one hrx
      obtain ⟨e, rfl⟩ : ∃ e, n = e + 1 := ⟨n - 1, by simp [dpN] at hd1; walk_at "om"⟩
      simp only [dpN] at hd1
      simp only [cntN] at hc1
      have hfl2 := flatT_len f
      refine a_tup S' r.hd (S'.sub _ _ hgu) (by with_unfolding_all rfl) (by with_unfolding_all rfl) ?_; intro s5 S5
      walk_at "go"
      with_reducible refine r_app ‹Sn _ _ _ _ _› (by walk_at "led") ?_ (by walk_at "szo"); intro s6 S6
      walk_at "go"
      with_reducible refine r_call0L ‹Sn _ _ _ _ _› r (IH e rfl _ _ _ (by walk_at "om") (by walk_at "om") h2) ?_
      intro ra ws wn s7 g7 S7 hv7 hr7 hgr hrr
      have hwl : ws.length ≤ 3000 := by rw [hrr.length, List.length_map]; walk_at "om"
      walk_at "go"
      with_reducible refine r_ext ‹Sn _ _ _ _ _› (by walk_at "led") (Sn.see ‹Sn _ _ _ _ _› hgr) ?_ (by walk_at "szo")
      intro n8 s8 S8'
      have S8 := S8' (own ++ [(la, lstO (fvs ++ [pv] ++ ws) n8)]) (by walk_at "led")
      walk_at "go"
      with_reducible refine r_newTD ‹Sn _ _ _ _ _› (xs := iis [11]) (.cons (.int _ _) .nil) ?_ (by walk_at "sz")
      intro ra9 s9 g9 hv9 hr9 S9
      walk_at "go"
      with_reducible refine r_app ‹Sn _ _ _ _ _› (by walk_at "led") ?_ (by walk_at "szo"); intro s10 S10
      walk_at "go"
      refine loop_next (g' := g9) (hv7.trans hv9) ⟨((hvs.trans hv0).trans hv7).trans hv9, fvs ++ [pv] ++ ws ++ [.ref ra9], n8 + 1, _, _, _, rfl, ?_, hi', rfl⟩ (by assumption)
      have e : plsD (flatT (t.take i) ++ flatT [Nd.one p f]) = plsD (flatT (t.take i)) ++ [.tuple (iis p)] ++ plsD (flatT f) ++ [.tuple (iis [11])] := by
        simp [flatT, flatN, plsD]
      rw [htk, flatT_app, e]
      exact RdAll.append (RdAll.append (RdAll.append (hrd'.up (hv7.trans hv9)) (.cons (h1.up (hv7.trans hv9)) .nil)) (hrr.up hv9)) (.cons hr9 .nil)
    | two p f s2 =>
      obtain ⟨ta, pv, fa, sa, un, rfl, hgu, h1, h2, h3⟩ := rd_two hrx
      obtain ⟨e, rfl⟩ : ∃ e, n = e + 1 := ⟨n - 1, by simp [dpN] at hd1; walk_at "om"⟩
      simp only [dpN] at hd1
      simp only [cntN] at hc1
      have hfl2 := flatT_len f
      have hfl3 := flatT_len s2
      refine a_tup S' r.hd (S'.sub _ _ hgu) (by with_unfolding_all rfl) (by with_unfolding_all rfl) ?_; intro s5 S5
      walk_at "go"
      with_reducible refine r_app ‹Sn _ _ _ _ _› (by walk_at "led") ?_ (by walk_at "szo"); intro s6 S6
      walk_at "go"
      with_reducible refine r_call0L ‹Sn _ _ _ _ _› r (IH e rfl _ _ _ (by walk_at "om") (by walk_at "om") h2) ?_
      intro ra ws wn s7 g7 S7 hv7 hr7 hgr hrr
      have hwl : ws.length ≤ 3000 := by rw [hrr.length, List.length_map]; walk_at "om"
      walk_at "go"
      with_reducible refine r_ext ‹Sn _ _ _ _ _› (by walk_at "led") (Sn.see ‹Sn _ _ _ _ _› hgr) ?_ (by walk_at "szo")
      intro n8 s8 S8'
      have S8 := S8' (own ++ [(la, lstO (fvs ++ [pv] ++ ws) n8)]) (by walk_at "led")
      walk_at "go"
      with_reducible refine r_newTD ‹Sn _ _ _ _ _› (xs := iis [5]) (.cons (.int _ _) .nil) ?_ (by walk_at "sz")
      intro rb s9 g9 hv9 hr9 S9
      walk_at "go"
      with_reducible refine r_newL ‹Sn _ _ _ _ _› ?_ (by walk_at "sz"); intro lb _ hlb S10
      walk_at "go"
      with_reducible refine r_call0L ‹Sn _ _ _ _ _› r (IH e rfl _ _ _ (by walk_at "om") (by walk_at "om") (h3.up (hv7.trans hv9))) ?_
      intro rc ws2 wn2 s11 g11 S11 hv11 hr11 hgr2 hrr2
      have hwl2 : ws2.length ≤ 3000 := by rw [hrr2.length, List.length_map]; walk_at "om"
      walk_at "go"
      with_reducible refine b_addL ‹Sn _ _ _ _ _› (Sn.at ‹Sn _ _ _ _ _› (by walk_at "led")) (Sn.see ‹Sn _ _ _ _ _› hgr2) ?_ (by walk_at "szo"); intro ld s12 _ S12
      walk_at "go"
      with_reducible refine r_ext ‹Sn _ _ _ _ _› (l := la) (vs := fvs ++ [pv] ++ ws) (n := n8) (by walk_at "led") (Sn.at ‹Sn _ _ _ _ _› (by walk_at "led")) ?_ (by walk_at "szo")
      intro n13 s13 S13'
      have S13 := (S13' _ (by walk_at "led")).drop (news' := own ++ [(la, lstO (fvs ++ [pv] ++ ws ++ ([.ref rb] ++ ws2)) n13)]) (List.Sublist.cons _ (List.Sublist.cons _ (List.Sublist.refl _)))
      walk_at "go"
      with_reducible refine r_newTD ‹Sn _ _ _ _ _› (xs := iis [11]) (.cons (.int _ _) .nil) ?_ (by walk_at "sz")
      intro ra14 s14 g14 hv14 hr14 S14
      walk_at "go"
      with_reducible refine r_app ‹Sn _ _ _ _ _› (by walk_at "led") ?_ (by walk_at "szo"); intro s15 S15
      walk_at "go"
      have hvt := ((hv7.trans hv9).trans hv11).trans hv14
      refine loop_next (g' := g14) hvt ⟨(hvs.trans hv0).trans hvt, _, n13 + 1, _, _, _, rfl, ?_, hi', rfl⟩ (by assumption)
      have e : plsD (flatT (t.take i) ++ flatT [Nd.two p f s2]) = plsD (flatT (t.take i)) ++ [.tuple (iis p)] ++ plsD (flatT f) ++ ([.tuple (iis [5])] ++ plsD (flatT s2)) ++ [.tuple (iis [11])] := by
        simp [flatT, flatN, plsD]
      rw [htk, flatT_app, e]
      exact RdAll.append (RdAll.append (RdAll.append (RdAll.append (hrd'.up hvt) (.cons (h1.up hvt) .nil)) (hrr.up ((hv9.trans hv11).trans hv14))) (RdAll.append (.cons (hr9.up (hv11.trans hv14)) .nil) (hrr2.up hv14))) (.cons hr14 .nil)
  case fin =>
    intro g1 m news s hQ4 S'
    refine hide2 m news fun XX hXX => ?_
    obtain ⟨hvs, fvs, fn, u1, u2, u3, rfl, hrd, hil, rfl⟩ := hQ4
    refine hXX _ _ ?_
    clear hXX
    walk_at "go"
    refine Sn.lockK ‹Sn _ _ _ _ _› (a := la) (by walk_at "led") hla fun g4 hv4 hg4 S5 => ?_
    walk_at "go"
    rw [← hlen.symm, List.take_of_length_le (by walk_at "om")] at hrd
    exact r_leave S5 en (own := []) (by walk_at "led") rfl (.lst hg4 (hrd.up hv4))


-- F6
noncomputable def stepA (w : Int) (p : List Int) : Int := if p.head? = some 11 then w - 1 else w
noncomputable def stepB (w : Int) (p : List Int) : Int := if p.head? = some 2 ∨ p.head? = some 3 ∨ p.head? = some 4 then w + 1 else w
noncomputable def withinL : Int → List (List Int) → List Int
  | _, [] => []
  | w, p :: r => stepA w p :: withinL (stepB (stepA w p) p) r
theorem withinL_len : ∀ (w : Int) (l : List (List Int)), (withinL w l).length = l.length
  | _, [] => rfl
  | w, p :: r => by simp [withinL, withinL_len _ r]
theorem drop_get {α : Type} {l : List α} {i : Nat} {x : α} (h : l[i]? = some x) : l.drop i = x :: l.drop (i + 1) := by
  obtain ⟨hi, e⟩ := List.getElem?_eq_some_iff.mp h
  rw [List.drop_eq_getElem_cons hi, e]
theorem plsD_get {l : List (List Int)} {i : Nat} {x : PyData} (h : (plsD l)[i]? = some x) : ∃ p, l[i]? = some p ∧ x = .tuple (iis p) := by
  rw [List.getElem?_map] at h
  cases e : l[i]? with
  | none => rw [e] at h; cases h
  | some p => rw [e] at h; cases h; exact ⟨p, rfl, rfl⟩
set_option maxHeartbeats 1000000 in
theorem sp_within {w : World} {G0 : Heap} (T : Tp w G0) {d : Nat} {g : Vis} {a : Addr} {L : List (List Int)} (hne : ∀ p ∈ L, p ≠ []) (hL : L.length ≤ 4000) (hr : Rd g (.ref a) (.list (plsD L))) :
    Ct pw w G0 (d + 1) (.ref 514) [.ref a] g [] (PData (.list (iis (withinL 0 L)))) := by
  refine ent (gls := []) (m := [("flat", .loc (some (.ref a))), ("found", .loc none), ("within", .loc none), ("plain", .loc none)]) (binds := [("flat", .ref a)]) (rest := ["found", "within", "plain"]) (T.K 514 o514 (by kernel_rfl)) (show o514.data = .func fd514 from rfl) T.nolim (codeRec_of T.K (by kernel_rfl)) rfl rfl rfl (fun _ _ => BindsTo.of_eq rfl) rfl (by kernel_rfl) (T.glb (by walk_at "gls")) ?_
  intro c s A r hG hgl he en S
  subst hG
  obtain ⟨L0, he⟩ := he
  obtain ⟨_, vs, n0, e0, hga, hra⟩ := hr.lst_inv
  cases e0
  have hlen := hra.length
  rw [List.length_map] at hlen
  with_reducible refine x_tupS (ns := ["found", "within"]) (by with_unfolding_all rfl) (by rw [he]; with_unfolding_all rfl) (fun _ _ => ?_)
  walk_at "go"
  with_reducible refine r_newL ‹Sn _ _ _ _ _› ?_ (by walk_at "sz"); intro la _ hla S1
  walk_at "go"
  with_reducible refine r_newT ‹Sn _ _ _ _ _› ?_ (by walk_at "sz"); intro ta _ hta S2
  with_reducible refine u_tup ‹Sn _ _ _ _ _› r.hd (Sn.at ‹Sn _ _ _ _ _› (by walk_at "led")) (by with_unfolding_all rfl) ?_; intro s3 S3
  have S4 := S3.drop (List.sublist_cons_self _ _)
  simp only [List.reverse_cons, List.reverse_nil, List.nil_append, List.cons_append]
  walk_at "go"
  with_reducible refine iter_list ‹Sn _ _ _ _ _› hga ?_; intro I o s' S' hI
  refine for_itr itr_list (fun i g' m news => VSub g g' ∧ ∃ fvs fn acc ww wt u, news = [(la, lstO fvs fn)] ∧ IntsAre fvs acc ∧ acc ++ withinL ww (L.drop i) = withinL 0 L ∧ acc.length = i ∧ i ≤ L.length ∧  m = ([("flat", .loc (some (.ref a))), ("found", .loc (some (.ref la))), ("within", .loc (some (.int ww wt))), ("plain", .loc u)] : Loc)) r.hd .name (.inl rfl) S' hI ⟨VSub.refl _, [], 0, [], 0, _, _, rfl, .nil, rfl, rfl, Nat.zero_le _, rfl⟩ ?step ?fin
  case step =>
    intro i v g0 g1 m own news s E' hi hv0 hP hT hQ13 S'
    refine hide4 v m own news fun XX hXX => ?_
    obtain ⟨hvs, fvs, fn, acc, ww, wt, u, rfl, hia, hacc, hal, hil, rfl⟩ := hQ13
    obtain ⟨x, hx, hrx⟩ := (hra.up (hvs.trans hv0)).get hP
    obtain ⟨p, hp, rfl⟩ := plsD_get hx
    obtain ⟨x, l, rfl⟩ : ∃ x l, p = x :: l := by
      cases p with
      | nil => exact absurd rfl (hne [] (List.mem_of_getElem? hp))
      | cons x l => exact ⟨x, l, rfl⟩
    obtain ⟨pa, rfl⟩ := hrx.tup_ref
    have hfl : fvs.length ≤ 4000 := by rw [hia.length]; walk_at "om"
    rw [drop_get hp] at hacc
    refine hXX _ _ _ _ ?_
    clear hXX
    walk_at "go"
    with_reducible refine s_tup0 ‹Sn _ _ _ _ _› hrx ?_ (by with_unfolding_all rfl); intro t'
    walk_at "go"
    with_reducible refine i_b (fun hb => ?_) (fun hb => ?_)
    · obtain rfl : x = 11 := by simpa using hb
      walk_at "go"
      with_reducible refine r_app ‹Sn _ _ _ _ _› (by walk_at "led") ?_ (by walk_at "szo"); intro s6 S6
      walk_at "go"
      with_reducible refine s_tup0 ‹Sn _ _ _ _ _› hrx ?_ (by with_unfolding_all rfl); intro t'
      walk_at "go"
      with_reducible refine r_newTD ‹Sn _ _ _ _ _› (xs := iis [2, 3, 4]) (.cons (.int _ _) (.cons (.int _ _) (.cons (.int _ _) .nil))) ?_ (by walk_at "sz")
      intro tb s9 g9 hv9 hr9 S9
      with_reducible refine c_inT ‹Sn _ _ _ _ _› r hr9 ?_
      walk_at "go"
      with_reducible refine i_no (by decide) ?_
      walk_at "go"
      refine loop_next (g' := g9) hv9 ⟨(hvs.trans hv0).trans hv9, _, _, acc ++ [ww - 1], ww - 1, _, _, rfl, ints_snoc' hia, ?_, by simp [hal], by walk_at "om", rfl⟩ (by assumption)
      rw [← hacc, List.append_assoc]; rfl
    · have hx : x ≠ 11 := by simpa using hb
      walk_at "go"
      with_reducible refine r_app ‹Sn _ _ _ _ _› (by walk_at "led") ?_ (by walk_at "szo"); intro s6 S6
      walk_at "go"
      with_reducible refine s_tup0 ‹Sn _ _ _ _ _› hrx ?_ (by with_unfolding_all rfl); intro t'
      walk_at "go"
      with_reducible refine r_newTD ‹Sn _ _ _ _ _› (xs := iis [2, 3, 4]) (.cons (.int _ _) (.cons (.int _ _) (.cons (.int _ _) .nil))) ?_ (by walk_at "sz")
      intro tb s9 g9 hv9 hr9 S9
      with_reducible refine c_inT ‹Sn _ _ _ _ _› r hr9 ?_
      walk_at "go"
      have hA : stepA ww (x :: l) = ww := by simp [stepA, hx]
      with_reducible refine i_dec (fun h2 => ?_) (fun h2 => ?_)
      · walk_at "go"
        refine loop_next (g' := g9) hv9 ⟨(hvs.trans hv0).trans hv9, _, _, acc ++ [ww], ww + 1, _, _, rfl, ints_snoc' hia, ?_, by simp [hal], by walk_at "om", rfl⟩ (by assumption)
        have hB : stepB ww (x :: l) = ww + 1 := by simp at h2; simp [stepB, h2]
        rw [← hacc, List.append_assoc, withinL, hA, hB]; rfl
      · walk_at "go"
        refine loop_next (g' := g9) hv9 ⟨(hvs.trans hv0).trans hv9, _, _, acc ++ [ww], ww, _, _, rfl, ints_snoc' hia, ?_, by simp [hal], by walk_at "om", rfl⟩ (by assumption)
        have hB : stepB ww (x :: l) = ww := by simp at h2; simp [stepB, h2]
        rw [← hacc, List.append_assoc, withinL, hA, hB]; rfl
  case fin =>
    intro g1 m news s hQ4 S'
    refine hide2 m news fun XX hXX => ?_
    obtain ⟨hvs, fvs, fn, acc, ww, wt, u, rfl, hia, hacc, hal, hil, rfl⟩ := hQ4
    refine hXX _ _ ?_
    clear hXX
    walk_at "go"
    refine Sn.lockK ‹Sn _ _ _ _ _› (a := la) (by walk_at "led") hla fun g4 hv4 hg4 S5 => ?_
    walk_at "go"
    rw [List.drop_of_length_le (by walk_at "om")] at hacc
    rw [← hacc]
    simp only [withinL, List.append_nil]
    exact r_leave S5 en (own := []) (by walk_at "led") rfl (.lst hg4 (rd_ints hia))


-- F7
noncomputable def isBr (p : List Int) : Bool := p.head? == some 12 || p.head? == some 13 || p.head? == some 14
noncomputable def reach1 (z : List Int × Int) : List Int := if isBr z.1 then z.1.tail.map (· - z.2) else []
noncomputable def reachedL (L : List (List Int)) : List Int := (L.zip (withinL 0 L)).flatMap reach1
set_option maxHeartbeats 1000000 in
theorem sp_reached {w : World} {G0 : Heap} (T : Tp w G0) {d : Nat} {g : Vis} {a : Addr} {L : List (List Int)} (hne : ∀ p ∈ L, p ≠ []) (hsz : ∀ p ∈ L, p.length ≤ 10) (hL : L.length ≤ 4000) (hr : Rd g (.ref a) (.list (plsD L))) :
    Ct pw w G0 (d + 2) (.ref 519) [.ref a] g [] (PData (.list (iis (reachedL L)))) := by
  refine entC (gls := [("zip", .type "zip"), ("_law_within", .ref 514)])
    (m := fun L => [("flat", .loc (some (.ref a))), ("found", .loc none), ("plain", .loc none), ("within", .cell (L + 1) none)])
    (binds := [("flat", .ref a)]) (ns := ["flat", "found", "plain", "within"])
    (T.K 519 o519 (by kernel_rfl)) (show o519.data = .func fd519 from rfl) T.nolim (codeRec_of T.K (by kernel_rfl)) rfl rfl rfl rfl rfl (fun L => by kernel_rfl) (by kernel_rfl) (T.glb (by walk_at "gls")) ?_
  intro c s A Lc r hG hgl he en S
  subst hG
  obtain ⟨_, vs, n0, e0, hga, hra⟩ := hr.lst_inv
  cases e0
  have hlen := hra.length
  rw [List.length_map] at hlen
  walk_at "go"
  with_reducible refine r_newL ‹Sn _ _ _ _ _› ?_ (by walk_at "sz"); intro la _ hla S1
  walk_at "go"
  with_reducible refine r_call0L ‹Sn _ _ _ _ _› (r.le (Nat.le_add_left 1 d)) (sp_within (d := 0) T hne hL hr) ?_
  intro ra ws wn s7 g7 S7 hv7 hr7 hgr hrr
  have hwl := hrr.length
  simp only [iis, List.length_map, withinL_len] at hwl
  have hga7 := hv7 _ _ hga
  walk_at "go"
  with_reducible refine call_zip ‹Sn _ _ _ _ _› hga7 hgr ?_
  intro z oz g8 s8 hv8 S8 hoz hZ
  obtain ⟨TI, TO, i1, i2, hZ⟩ := hZ
  refine itr_zip.self hZ S8 ?_
  refine for_itr itr_zip (fun i g' m news => VSub g8 g' ∧ ∃ fvs fn u wv, news = [(la, lstO fvs fn)] ∧ IntsAre fvs (((L.zip (withinL 0 L)).take i).flatMap reach1) ∧ fvs.length ≤ 10 * i ∧  m = ([("flat", .loc (some (.ref a))), ("found", .loc (some (.ref la))), ("plain", .loc u), ("within", .cell (Lc + 1) wv)] : Loc)) r.hd .tup (.inr ⟨_, _, _, rfl⟩) S8 hZ ⟨VSub.refl _, [], 0, _, _, rfl, .nil, Nat.zero_le _, rfl⟩ ?step ?fin
  case step =>
    intro i v g0 g1 m own news s E' hi hv0 hQ11 hT hQ13 S'
    refine hide4 v m own news fun XX hXX => ?_
    obtain ⟨xv, yv, ta, hxv, hyv, rfl, hgt⟩ := hQ11
    obtain ⟨hvs, fvs, fn, u, wv, rfl, hia, hfl, rfl⟩ := hQ13
    have hvt := (hv7.trans hv8).trans (hvs.trans hv0)
    obtain ⟨x, hx, hrx⟩ := (hra.up hvt).get hxv
    obtain ⟨p, hp, rfl⟩ := plsD_get hx
    obtain ⟨y, hy, hry⟩ := (hrr.up (hv8.trans (hvs.trans hv0))).get hyv
    have hmem := List.mem_of_getElem? hp
    have hpsz := hsz p hmem
    obtain ⟨x, l, rfl⟩ : ∃ x l, p = x :: l := by
      cases p with
      | nil => exact absurd rfl (hne [] hmem)
      | cons x l => exact ⟨x, l, rfl⟩
    obtain ⟨pa, pvs, pn, rfl, hgp, hrp⟩ := hrx.tup_inv
    rw [List.getElem?_map] at hy
    obtain ⟨wi, hwi, rfl⟩ := Option.map_eq_some_iff.mp hy
    obtain ⟨wt, rfl⟩ := hry.int_inv
    have hzi : (L.zip (withinL 0 L))[i]? = some (x :: l, wi) := by simp [List.getElem?_zip_eq_some, hp, hwi]
    have hi4 : i < 4000 := by rw [Nat.lt_min] at hi; omega
    refine hXX _ _ _ _ ?_
    clear hXX
    refine a_tup S' r.hd (S'.see hgt) (by with_unfolding_all rfl) (by with_unfolding_all rfl) ?_; intro s5 S5
    walk_at "go"
    with_reducible refine s_tup0 ‹Sn _ _ _ _ _› hrx ?_ (by with_unfolding_all rfl); intro t'
    walk_at "go"
    with_reducible refine r_newTD ‹Sn _ _ _ _ _› (xs := iis [12, 13, 14]) (.cons (.int _ _) (.cons (.int _ _) (.cons (.int _ _) .nil))) ?_ (by walk_at "sz")
    intro tb s9 g9 hv9 hr9 S9
    with_reducible refine c_inT ‹Sn _ _ _ _ _› r hr9 ?_
    walk_at "go"
    with_reducible refine i_dec (fun h2 => ?_) (fun h2 => ?_)
    · walk_at "go"
      with_reducible refine e_comp (cl := [("within", Lc + 1)]) (by rw [he]; with_unfolding_all rfl) (by with_unfolding_all rfl) (by kernel_rfl) ?_ (by intro _; with_unfolding_all rfl)
      walk_at "go"
      have hpl : pvs.length ≤ 10 := by rw [hrp.length, List.length_map]; exact hpsz
      have hgp9 := hv9 _ _ hgp
      with_reducible refine s_from1 ‹Sn _ _ _ _ _› (Sn.see ‹Sn _ _ _ _ _› hgp9) (by rw [hrp.length]; simp) (by simp only [sizeLine]; omega) ?_ (by intro _; with_unfolding_all rfl)
      intro rt s10 hrt S10
      refine Sn.lockK S10 (by walk_at "led") hrt fun g11 hv11 hg11 S11 => ?_
      with_reducible refine iter_tup S11 hg11 ?_; intro I2 o2 s12 S12 hI2
      have hrt2 : RdAll g11 (pvs.drop 1) (iis l) := by
        have := ((hrp.up (hv9.trans hv11))).drop 1
        simpa using this
      refine comp_itr (own := []) (mc0 := [("label", .loc none), ("within", .ro (Lc + 1) (.int wi wt))]) (gls := []) itr_tup  (fun mc => ∃ u, mc = ([("label", .loc u), ("within", .ro (Lc + 1) (.int wi wt))] : Loc))  (fun i g own vs => own = [] ∧ VSub g11 g ∧ IntsAre vs ((l.take i).map (· - wi)) ∧ vs.length = i ∧ i ≤ l.length) he ?hok ?gb ?sl ⟨_, rfl⟩ r.hd .name (.inl rfl) S12 (by walk_at "led") hI2 ⟨rfl, VSub.refl _, .nil, rfl, Nat.zero_le _⟩ ?len ?step2 ?fin2
      case hok => kernel_rfl
      case gb => exact T.glb (by walk_at "gls")
      case sl => exact .loc (by kernel_rfl) (by kernel_rfl) (.ro (by kernel_rfl) (by kernel_rfl) (by kernel_rfl) (.tail _ (.tail _ (.tail _ (.head _)))) .nil)
      case len => rintro i g own vs ⟨_, _, _, hl, hl2⟩; simp only [List.length_cons] at hpsz; show vs.length < 2 ^ 24; omega
      case step2 =>
        intro c' C D i v g0 g mc oi own' vs k s E' he' hgl' hG' hi2 hv2 hP hT hQ21 hw hQ23 S'
        refine hide5 v mc oi own' vs fun XX hXX => ?_
        obtain ⟨rfl, hvv, hia2, hll, hlk⟩ := hQ21
        obtain ⟨u, rfl⟩ := hQ23
        obtain ⟨xd, hxd, hrxd⟩ := hrt2.get hP
        rw [List.getElem?_map] at hxd
        obtain ⟨lab, hlab, rfl⟩ := Option.map_eq_some_iff.mp hxd
        obtain ⟨lt, rfl⟩ := hrxd.int_inv
        refine hXX _ _ _ _ _ ?_
        clear hXX
        walk_at "go"
        have hil := (List.getElem?_eq_some_iff.mp hlab).1
        refine comp_next (g' := g) (VSub.refl _) ⟨_, rfl⟩ ⟨rfl, hvv.trans hv2, ?_, by simp [hll], by omega⟩ rfl (by assumption)
        rw [take_succ_get hlab, List.map_append]
        exact ints_snoc' hia2
      case fin2 =>
        intro D g2 own2 vs2 k2 s2 hD2 hv2 hQ8 hw2 S2
        refine hide2 own2 vs2 fun XX hXX => ?_
        obtain ⟨rfl, hvv, hia2, hll, hlk⟩ := hQ8
        simp only [List.nil_append] at S2
        have hl10 : vs2.length ≤ 10 := by simp only [List.length_drop] at hll; omega
        refine hXX _ _ ?_
        clear hXX
        walk_at "go"
        with_reducible refine r_ext ‹Sn _ _ _ _ _› (l := la) (by walk_at "led") (Sn.at ‹Sn _ _ _ _ _› (by walk_at "led")) ?_ (by walk_at "szo")
        intro n13 s13 S13'
        have S13 := (S13' _ (by walk_at "led")).drop (news' := own ++ [(la, lstO (fvs ++ vs2) n13)]) (List.Sublist.cons _ (List.Sublist.refl _))
        walk_at "go"
        refine loop_next (g' := g2) ((hv9.trans hv11).trans hv2) ⟨(((hvs.trans hv0).trans hv9).trans hv11).trans hv2, fvs ++ vs2, n13, _, _, rfl, ?_, by simp only [List.length_append]; omega, rfl⟩ (by assumption)
        rw [take_succ_get hzi, List.flatMap_append]
        have hbr : isBr (x :: l) = true := by simp at h2; rcases h2 with h | h | h <;> simp [isBr, h]
        have e : List.flatMap reach1 [(x :: l, wi)] = (l.take (pvs.drop 1).length).map (· - wi) := by
          have : (pvs.drop 1).length = l.length := by rw [hrt2.length, List.length_map]
          rw [this, List.take_length]
          simp [reach1, hbr]
        rw [e]
        exact hia.append hia2
    · walk_at "go"
      refine loop_next (g' := g9) hv9 ⟨(hvs.trans hv0).trans hv9, fvs, fn, _, _, rfl, ?_, by omega, rfl⟩ (by assumption)
      have hbr : isBr (x :: l) = false := by simp at h2; simp [isBr, h2]
      rw [take_succ_get hzi, List.flatMap_append]
      simp only [List.flatMap_cons, List.flatMap_nil, reach1, hbr, List.append_nil]
      simpa using hia
  case fin =>
    intro g1 m news s hQ4 S'
    refine hide2 m news fun XX hXX => ?_
    obtain ⟨hvs, fvs, fn, u, wv, rfl, hia, hfl, rfl⟩ := hQ4
    refine hXX _ _ ?_
    clear hXX
    walk_at "go"
    refine Sn.lockK ‹Sn _ _ _ _ _› (a := la) (by walk_at "led") hla fun g4 hv4 hg4 S5 => ?_
    walk_at "go"
    rw [List.take_of_length_le (by simp [withinL_len, hlen, hwl])] at hia
    exact r_leave S5 en (own := []) (by walk_at "led") rfl (.lst hg4 (rd_ints hia))


-- F8
noncomputable def lower1 (dep : Int) (z : List Int × Int) : List Int := if isBr z.1 then z.1.take 1 ++ z.1.tail.map (fun l => l - if l - z.2 > dep then 1 else 0) else z.1
noncomputable def loweredL (dep : Int) (L : List (List Int)) : List (List Int) := (L.zip (withinL 0 L)).map (lower1 dep)
set_option maxHeartbeats 1000000 in
theorem sp_lowered {w : World} {G0 : Heap} (T : Tp w G0) {d : Nat} {g : Vis} {a : Addr} {L : List (List Int)} {dep : Int} {dt : Tok} (hne : ∀ p ∈ L, p ≠ []) (hsz : ∀ p ∈ L, p.length ≤ 10) (hL : L.length ≤ 4000) (hr : Rd g (.ref a) (.list (plsD L))) :
    Ct pw w G0 (d + 2) (.ref 524) [.ref a, .int dep dt] g [] (PData (.list (plsD (loweredL dep L)))) := by
  refine entC (gls := [("zip", .type "zip"), ("_law_within", .ref 514), ("tuple", .type "tuple")])
    (m := fun L => [("flat", .loc (some (.ref a))), ("depth", .cell (L + 1) (some (.int dep dt))), ("found", .loc none), ("plain", .loc none), ("within", .cell (L + 1 + 1) none)])
    (binds := [("flat", .ref a), ("depth", .int dep dt)]) (ns := ["flat", "depth", "found", "plain", "within"])
    (T.K 524 o524 (by kernel_rfl)) (show o524.data = .func fd524 from rfl) T.nolim (codeRec_of T.K (by kernel_rfl)) rfl rfl rfl rfl rfl (fun L => by kernel_rfl) (by kernel_rfl) (T.glb (by walk_at "gls")) ?_
  intro c s A Lc r hG hgl he en S
  subst hG
  obtain ⟨_, vs, n0, e0, hga, hra⟩ := hr.lst_inv
  cases e0
  have hlen := hra.length
  rw [List.length_map] at hlen
  walk_at "go"
  with_reducible refine r_newL ‹Sn _ _ _ _ _› ?_ (by walk_at "sz"); intro la _ hla S1
  walk_at "go"
  with_reducible refine r_call0L ‹Sn _ _ _ _ _› (r.le (Nat.le_add_left 1 d)) (sp_within (d := 0) T hne hL hr) ?_
  intro ra ws wn s7 g7 S7 hv7 hr7 hgr hrr
  have hwl := hrr.length
  simp only [iis, List.length_map, withinL_len] at hwl
  have hga7 := hv7 _ _ hga
  walk_at "go"
  with_reducible refine call_zip ‹Sn _ _ _ _ _› hga7 hgr ?_
  intro z oz g8 s8 hv8 S8 hoz hZ
  obtain ⟨TI, TO, i1, i2, hZ⟩ := hZ
  refine itr_zip.self hZ S8 ?_
  refine for_itr itr_zip (fun i g' m news => VSub g8 g' ∧ ∃ fvs fn u wv, news = [(la, lstO fvs fn)] ∧ RdAll g' fvs (plsD (((L.zip (withinL 0 L)).take i).map (lower1 dep))) ∧ fvs.length ≤ i ∧  m = ([("flat", .loc (some (.ref a))), ("depth", .cell (Lc + 1) (some (.int dep dt))), ("found", .loc (some (.ref la))), ("plain", .loc u), ("within", .cell (Lc + 1 + 1) wv)] : Loc)) r.hd .tup (.inr ⟨_, _, _, rfl⟩) S8 hZ ⟨VSub.refl _, [], 0, _, _, rfl, .nil, Nat.zero_le _, rfl⟩ ?step ?fin
  case step =>
    intro i v g0 g1 m own news s E' hi hv0 hQ11 hT hQ13 S'
    refine hide4 v m own news fun XX hXX => ?_
    obtain ⟨xv, yv, ta, hxv, hyv, rfl, hgt⟩ := hQ11
    obtain ⟨hvs, fvs, fn, u, wv, rfl, hia, hfl, rfl⟩ := hQ13
    have hvt := (hv7.trans hv8).trans (hvs.trans hv0)
    obtain ⟨x, hx, hrx⟩ := (hra.up hvt).get hxv
    obtain ⟨p, hp, rfl⟩ := plsD_get hx
    obtain ⟨y, hy, hry⟩ := (hrr.up (hv8.trans (hvs.trans hv0))).get hyv
    have hmem := List.mem_of_getElem? hp
    have hpsz := hsz p hmem
    obtain ⟨x, l, rfl⟩ : ∃ x l, p = x :: l := by
      cases p with
      | nil => exact absurd rfl (hne [] hmem)
      | cons x l => exact ⟨x, l, rfl⟩
    obtain ⟨pa, pvs, pn, rfl, hgp, hrp⟩ := hrx.tup_inv
    rw [List.getElem?_map] at hy
    obtain ⟨wi, hwi, rfl⟩ := Option.map_eq_some_iff.mp hy
    obtain ⟨wt, rfl⟩ := hry.int_inv
    have hzi : (L.zip (withinL 0 L))[i]? = some (x :: l, wi) := by simp [List.getElem?_zip_eq_some, hp, hwi]
    have hi4 : i < 4000 := by rw [Nat.lt_min] at hi; omega
    refine hXX _ _ _ _ ?_
    clear hXX
    refine a_tup S' r.hd (S'.see hgt) (by with_unfolding_all rfl) (by with_unfolding_all rfl) ?_; intro s5 S5
    walk_at "go"
    with_reducible refine s_tup0 ‹Sn _ _ _ _ _› hrx ?_ (by with_unfolding_all rfl); intro t'
    walk_at "go"
    with_reducible refine r_newTD ‹Sn _ _ _ _ _› (xs := iis [12, 13, 14]) (.cons (.int _ _) (.cons (.int _ _) (.cons (.int _ _) .nil))) ?_ (by walk_at "sz")
    intro tb s9 g9 hv9 hr9 S9
    with_reducible refine c_inT ‹Sn _ _ _ _ _› r hr9 ?_
    walk_at "go"
    with_reducible refine i_dec (fun h2 => ?_) (fun h2 => ?_)
    · walk_at "go"
      with_reducible refine s_tup0 ‹Sn _ _ _ _ _› (hrx.up hv9) ?_ (by with_unfolding_all rfl); intro t''
      walk_at "go"
      with_reducible refine r_newL ‹Sn _ _ _ _ _› ?_ (by walk_at "sz"); intro lb _ hlb S10
      with_reducible refine e_comp (cl := [("within", Lc + 1 + 1), ("depth", Lc + 1)]) (by rw [he]; with_unfolding_all rfl) (by with_unfolding_all rfl) (by kernel_rfl) ?_ (by intro _; with_unfolding_all rfl)
      walk_at "go"
      have hpl : pvs.length ≤ 10 := by rw [hrp.length, List.length_map]; exact hpsz
      have hgp9 := hv9 _ _ hgp
      with_reducible refine s_from1 ‹Sn _ _ _ _ _› (Sn.see ‹Sn _ _ _ _ _› hgp9) (by rw [hrp.length]; simp) (by simp only [sizeLine]; omega) ?_ (by intro _; with_unfolding_all rfl)
      intro rt s10 hrt S10
      refine Sn.lockK S10 (by walk_at "led") hrt fun g11 hv11 hg11 S11 => ?_
      with_reducible refine iter_tup S11 hg11 ?_; intro I2 o2 s12 S12 hI2
      have hrt2 : RdAll g11 (pvs.drop 1) (iis l) := by
        have := ((hrp.up (hv9.trans hv11))).drop 1
        simpa using this
      refine comp_itr (own := []) (mc0 := [("label", .loc none), ("depth", .ro (Lc + 1) (.int dep dt)), ("within", .ro (Lc + 1 + 1) (.int wi wt))]) (gls := []) itr_tup  (fun mc => ∃ u, mc = ([("label", .loc u), ("depth", .ro (Lc + 1) (.int dep dt)), ("within", .ro (Lc + 1 + 1) (.int wi wt))] : Loc))  (fun i g own vs => own = [] ∧ VSub g11 g ∧ IntsAre vs ((l.take i).map (fun l => l - if l - wi > dep then 1 else 0)) ∧ vs.length = i ∧ i ≤ l.length) he ?hok ?gb ?sl ⟨_, rfl⟩ r.hd .name (.inl rfl) S12 (by walk_at "led") hI2 ⟨rfl, VSub.refl _, .nil, rfl, Nat.zero_le _⟩ ?len ?step2 ?fin2
      case hok => kernel_rfl
      case gb => exact T.glb (by walk_at "gls")
      case sl => exact .loc (by kernel_rfl) (by kernel_rfl) (.ro (by kernel_rfl) (by kernel_rfl) (by kernel_rfl) (.tail _ (.head _)) (.ro (by kernel_rfl) (by kernel_rfl) (by kernel_rfl) (.tail _ (.tail _ (.tail _ (.tail _ (.head _))))) .nil))
      case len => rintro i g own vs ⟨_, _, _, hl, hl2⟩; simp only [List.length_cons] at hpsz; show vs.length < 2 ^ 24; omega
      case step2 =>
        intro c' C D i v g0 g mc oi own' vs k s E' he' hgl' hG' hi2 hv2 hP hT hQ21 hw hQ23 S'
        refine hide5 v mc oi own' vs fun XX hXX => ?_
        obtain ⟨rfl, hvv, hia2, hll, hlk⟩ := hQ21
        obtain ⟨u, rfl⟩ := hQ23
        obtain ⟨xd, hxd, hrxd⟩ := hrt2.get hP
        rw [List.getElem?_map] at hxd
        obtain ⟨lab, hlab, rfl⟩ := Option.map_eq_some_iff.mp hxd
        obtain ⟨lt, rfl⟩ := hrxd.int_inv
        refine hXX _ _ _ _ _ ?_
        clear hXX
        walk_at "go"
        have hil := (List.getElem?_eq_some_iff.mp hlab).1
        with_reducible refine i_dec (fun h3 => ?_) (fun h3 => ?_)
        all_goals
          walk_at "go"
          refine comp_next (g' := g) (VSub.refl _) ⟨_, rfl⟩ ⟨rfl, hvv.trans hv2, ?_, by simp [hll], by omega⟩ rfl (by assumption)
          rw [take_succ_get hlab, List.map_append]
          simp only [List.map_cons, List.map_nil, h3, if_true, if_false]
          exact ints_snoc' hia2
      case fin2 =>
        intro D g2 own2 vs2 k2 s2 hD2 hv2 hQ8 hw2 S2
        refine hide2 own2 vs2 fun XX hXX => ?_
        obtain ⟨rfl, hvv, hia2, hll, hlk⟩ := hQ8
        simp only [List.nil_append] at S2
        have hl10 : vs2.length ≤ 10 := by simp only [List.length_drop] at hll; omega
        refine hXX _ _ ?_
        clear hXX
        walk_at "go"
        with_reducible refine b_addL S2 (Sn.at S2 (by walk_at "led")) (Sn.at S2 (by walk_at "led")) ?_ (by walk_at "szo"); intro ra2 s3 _ S3
        walk_at "go"
        with_reducible refine r_tupL S3 (Sn.at S3 (by walk_at "led")) ?_ (by walk_at "szo"); intro ta s4 hta S4
        refine Sn.lockK S4 (by walk_at "led") hta fun g14 hv14 hg14 S14 => ?_
        have S15 := S14.drop (news' := own ++ [(la, lstO fvs fn)]) (List.Sublist.cons _ (List.Sublist.cons _ (List.Sublist.cons _ (List.Sublist.refl _))))
        walk_at "go"
        with_reducible refine r_app ‹Sn _ _ _ _ _› (by walk_at "led") ?_ (by walk_at "szo"); intro s6 S6
        walk_at "go"
        have hvx := ((hv9.trans hv11).trans hv2).trans hv14
        refine loop_next (g' := g14) hvx ⟨(hvs.trans hv0).trans hvx, fvs ++ [.ref ta], _, _, _, rfl, ?_, by simp only [List.length_append, List.length_singleton]; omega, rfl⟩ (by assumption)
        rw [take_succ_get hzi, List.map_append, plsD_app]
        refine RdAll.append (hia.up (hv0.trans hvx)) (.cons ?_ .nil)
        have hbr : isBr (x :: l) = true := by simp at h2; rcases h2 with h | h | h <;> simp [isBr, h]
        have e : (l.take (pvs.drop 1).length) = l := by
          have : (pvs.drop 1).length = l.length := by rw [hrt2.length, List.length_map]
          rw [this, List.take_length]
        rw [e] at hia2
        simp only [lower1, hbr, if_true, List.take_succ_cons, List.take_zero, List.tail_cons]
        exact .tup hg14 (.cons (.int _ _) (rd_ints hia2))
    · walk_at "go"
      with_reducible refine r_app ‹Sn _ _ _ _ _› (by walk_at "led") ?_ (by walk_at "szo"); intro s6 S6
      walk_at "go"
      refine loop_next (g' := g9) hv9 ⟨(hvs.trans hv0).trans hv9, fvs ++ [.ref pa], _, _, _, rfl, ?_, by simp only [List.length_append, List.length_singleton]; omega, rfl⟩ (by assumption)
      have hbr : isBr (x :: l) = false := by simp at h2; simp [isBr, h2]
      rw [take_succ_get hzi, List.map_append, plsD_app]
      refine RdAll.append (hia.up (hv0.trans hv9)) (.cons ?_ .nil)
      simp only [lower1, hbr]
      exact hrx.up hv9
  case fin =>
    intro g1 m news s hQ4 S'
    refine hide2 m news fun XX hXX => ?_
    obtain ⟨hvs, fvs, fn, u, wv, rfl, hia, hfl, rfl⟩ := hQ4
    refine hXX _ _ ?_
    clear hXX
    walk_at "go"
    refine Sn.lockK ‹Sn _ _ _ _ _› (a := la) (by walk_at "led") hla fun g4 hv4 hg4 S5 => ?_
    walk_at "go"
    rw [List.take_of_length_le (by simp [withinL_len, hlen, hwl])] at hia
    exact r_leave S5 en (own := []) (by walk_at "led") rfl (.lst hg4 (hia.up hv4))


-- F9
/-- a plain that the law draws -/
noncomputable def PlOk (nf : Int) (p : List Int) : Prop := LeafOk nf p ∨ ∃ b a, p = [b, a] ∧ (b = 2 ∨ b = 3 ∨ b = 4) ∧ KindOk a
noncomputable abbrev Kinds := List (List Int × List Int)
noncomputable abbrev kindsD (ks : Kinds) : List PyData := ks.map fun k => .tuple [.tuple (iis k.1), .tuple (iis k.2)]
noncomputable def inSpan (c : Int) (l : List Int) : Bool := match l with
  | f :: t :: _ => decide (f ≤ c) && decide (c ≤ t)
  | _ => false
noncomputable def pairOf (l : List Int) : List Int := match l with
  | [_, _, a, b, _] => [a, b]
  | _ => []
noncomputable def klen (ks : Kinds) (k : Int) : Int × Int := match ks[k.toNat]? with
  | some x => (x.1.length, x.2.length)
  | none => (0, 0)
noncomputable def countsL (ks : Kinds) (fs : List Int) (p : List Int) : Option (Int × Int) := match p with
  | [] => none
  | c :: l =>
    if c ∈ ([0, 12, 14, 15, 18, 19] : List Int) then none
    else if c ∈ ([2, 3, 4] : List Int) then
      let told := l.headD 0
      let test : Int := if c = 4 then 1 else 0
      if told < 0 then some (test, if told = -64 then 0 else 1) else some (test + (klen ks told).1, (klen ks told).2)
    else if c ∈ ([16, 17] : List Int) then
      let k := if c = 16 then fs.getD (l.headD 0).toNat 0 else l.headD 0
      some ((klen ks k).1 + c - 16, (klen ks k).2)
    else match ((spansL.filter (inSpan c)).map pairOf).head? with
      | some [a, b] => some (a, b)
      | _ => none
noncomputable def optD : Option (Int × Int) → PyData
  | none => .none
  | some (a, b) => .tuple (iis [a, b])
structure CtxOk (ks : Kinds) (fs : List Int) : Prop where
  k3 : ks.length = 3
  kl : ∀ k ∈ ks, k.1.length ≤ 3 ∧ k.2.length ≤ 3
  f5 : fs.length ≤ 5
  f0 : 0 < fs.length
  fk : ∀ f ∈ fs, 0 ≤ f ∧ f < 3
theorem pl_block {nf : Int} {x : Int} {l : List Int} (h : PlOk nf (x :: l)) (hx : x ∈ ([2, 3, 4] : List Int)) : ∃ a, l = [a] ∧ KindOk a := by
  simp only [List.mem_cons, List.not_mem_nil, or_false] at hx
  rcases h with h | ⟨b, a, e, _, h⟩
  · exfalso
    rcases h with ⟨y, _, e | e⟩ | ⟨ls, e, _⟩ | ⟨f, e, _⟩ | ⟨a, b, e, _⟩ | e | e | e | e | ⟨k, f, t, ta, pu, m, c, ls, hk, hs, h1, h2, e, _⟩
    all_goals (injection e with e1 e2)
    all_goals try walk_at "om"
    subst e1
    have : ∀ k : Fin 41, (spansL[k.1]?.any fun l => match l with | f :: t :: _ => decide (4 < f ∨ t < 2) | _ => true) = true := by decide +kernel
    have := this ⟨k, hk⟩
    simp only [hs, Option.any_some, decide_eq_true_eq] at this
    walk_at "om"
  · injection e with e1 e2
    exact ⟨a, e2, h⟩
theorem ne_out {x f t c : Int} (h : x < f ∨ t < x) (h1 : f ≤ c) (h2 : c ≤ t) : c ≠ x := fun e => by
  subst e
  rcases h with h | h
  · exact Int.not_lt.mpr h1 h
  · exact Int.not_lt.mpr h2 h
theorem span_out {q : Nat} {f t ta pu m c : Int} (hk : q < 41) (hs : spansL[q]? = some [f, t, ta, pu, m]) (h1 : f ≤ c) (h2 : c ≤ t) : c ≠ 16 ∧ c ≠ 17 ∧ c ≠ 0 ∧ c ≠ 12 ∧ c ≠ 14 ∧ c ≠ 15 := by
  have : ∀ k : Fin 41, (spansL[k.1]?.any fun l => match l with | f :: t :: _ => decide ((17 < f ∨ t < 16) ∧ (0 < f ∨ t < 0) ∧ (12 < f ∨ t < 12) ∧ (15 < f ∨ t < 14)) | _ => true) = true := by decide +kernel
  have := this ⟨q, hk⟩
  simp only [hs, Option.any_some, decide_eq_true_eq] at this
  obtain ⟨a, b, d, e⟩ := this
  exact ⟨ne_out (a.imp_left (Int.lt_trans (by decide))) h1 h2, ne_out (a.imp_right fun h => Int.lt_trans h (by decide)) h1 h2, ne_out b h1 h2, ne_out d h1 h2, ne_out (e.imp_left (Int.lt_trans (by decide))) h1 h2, ne_out (e.imp_right fun h => Int.lt_trans h (by decide)) h1 h2⟩
theorem pl_16 {nf : Int} {l : List Int} (h : PlOk nf (16 :: l)) : ∃ f, l = [f] ∧ 0 ≤ f ∧ f < nf := by
  rcases h with h | ⟨b, a, e, hb, h⟩
  · rcases h with ⟨y, _, e | e⟩ | ⟨ls, e, _⟩ | ⟨f, e, h⟩ | ⟨a, b, e, _⟩ | e | e | e | e | ⟨k, f, t, ta, pu, m, c, ls, hk, hs, h1, h2, e, _⟩
    all_goals (injection e with e1 e2)
    all_goals try (exfalso; walk_at "om")
    · exact ⟨f, e2, h⟩
    · exact absurd e1.symm (span_out hk hs h1 h2).1
  · injection e with e1 e2; walk_at "om"
theorem pl_17 {nf : Int} {l : List Int} (h : PlOk nf (17 :: l)) : ∃ a b, l = [a, b] ∧ 0 ≤ a ∧ a < 3 := by
  rcases h with h | ⟨b, a, e, hb, h⟩
  · rcases h with ⟨y, _, e | e⟩ | ⟨ls, e, _⟩ | ⟨f, e, h⟩ | ⟨a, b, e, h⟩ | e | e | e | e | ⟨k, f, t, ta, pu, m, c, ls, hk, hs, h1, h2, e, _⟩
    all_goals (injection e with e1 e2)
    all_goals try (exfalso; walk_at "om")
    · exact ⟨a, b, e2, h.1, h.2.1⟩
    · exact absurd e1.symm (span_out hk hs h1 h2).2.1
  · injection e with e1 e2; walk_at "om"
theorem spans5 : ∀ l ∈ spansL, ∃ a b c d e, l = [a, b, c, d, e] := by
  have : spansL.all (fun l => l.length == 5) = true := by decide +kernel
  intro l hl
  have := List.all_eq_true.mp this l hl
  match l, this with
  | [a, b, c, d, e], _ => exact ⟨a, b, c, d, e, rfl⟩
theorem pl_else {nf x : Int} {l : List Int} (h : PlOk nf (x :: l)) (h1 : x ∉ ([0, 12, 14, 15, 18, 19] : List Int)) (h2 : x ∉ ([2, 3, 4] : List Int)) (h3 : x ∉ ([16, 17] : List Int)) : ∃ a b, ((spansL.filter (inSpan x)).map pairOf).head? = some [a, b] := by
  have key : ∀ y ∈ spansL, inSpan x y = true → ∃ a b, ((spansL.filter (inSpan x)).map pairOf).head? = some [a, b] := by
    intro y hy hin
    have hm : y ∈ spansL.filter (inSpan x) := List.mem_filter.mpr ⟨hy, hin⟩
    cases e : spansL.filter (inSpan x) with
    | nil => rw [e] at hm; cases hm
    | cons z r =>
      have hz : z ∈ spansL.filter (inSpan x) := by rw [e]; exact .head _
      obtain ⟨a, b, c, d, f, rfl⟩ := spans5 z (List.mem_filter.mp hz).1
      exact ⟨c, d, rfl⟩
  simp only [List.mem_cons, List.not_mem_nil, or_false, not_or] at h1 h2 h3
  rcases h with h | ⟨b, a, e, hb, h⟩
  · rcases h with ⟨y, _, e | e⟩ | ⟨ls, e, _⟩ | ⟨f, e, h⟩ | ⟨a, b, e, h⟩ | e | e | e | e | ⟨k, f, t, ta, pu, m, c, ls, hk, hs, q1, q2, e, _⟩
    all_goals (injection e with e1 e2)
    all_goals try (exfalso; walk_at "om")
    · subst e1
      exact key [13, 13, 1, 0, 1] (by simp [spansL]) (by decide)
    · subst e1
      exact key _ (List.mem_of_getElem? hs) (by simp [inSpan, q1, q2])
  · injection e with e1 e2; exfalso; walk_at "om"
set_option maxHeartbeats 1000000 in
theorem sp_counts {w : World} {G0 : Heap} (T : Tp w G0) {d : Nat} {g : Vis} {pv kv fv : Addr} {ks : Kinds} {fs : List Int} {x : Int} {l : List Int} (hC : CtxOk ks fs) (hp : PlOk fs.length (x :: l)) (hrp : Rd g (.ref pv) (.tuple (iis (x :: l)))) (hrk : Rd g (.ref kv) (.list (kindsD ks))) (hrf : Rd g (.ref fv) (.list (iis fs))) :
    Ct pw w G0 (d + 2) (.ref 529) [.ref pv, .ref kv, .ref fv] g [] (PData (optD (countsL ks fs (x :: l)))) := by
  refine entC (gls := [("len", .builtin "len"), ("_law_spans", .ref 474)])
    (m := fun L => [("plain", .loc (some (.ref pv))), ("kinds", .loc (some (.ref kv))), ("funcs", .loc (some (.ref fv))), ("code", .cell (L + 1) none), ("told", .loc none), ("test", .loc none), ("kind", .loc none)])
    (binds := [("plain", .ref pv), ("kinds", .ref kv), ("funcs", .ref fv)]) (ns := ["plain", "kinds", "funcs", "code", "told", "test", "kind"])
    (T.K 529 o529 (by kernel_rfl)) (show o529.data = .func fd529 from rfl) T.nolim (codeRec_of T.K (by kernel_rfl)) rfl rfl rfl rfl rfl (fun L => by kernel_rfl) (by kernel_rfl) (T.glb (by walk_at "gls")) ?_
  intro c s A Lc r hG hgl he en S
  subst hG
  walk_at "go"
  with_reducible refine s_tup0 ‹Sn _ _ _ _ _› hrp ?_ (by with_unfolding_all rfl); intro t0
  walk_at "go"
  with_reducible refine r_newTD ‹Sn _ _ _ _ _› (xs := iis [0, 12, 14, 15, 18, 19]) (.cons (.int _ _) (.cons (.int _ _) (.cons (.int _ _) (.cons (.int _ _) (.cons (.int _ _) (.cons (.int _ _) .nil)))))) ?_ (by walk_at "sz")
  intro tb s1 g1 hv1 hr1 S1
  with_reducible refine c_inT ‹Sn _ _ _ _ _› r hr1 ?_
  walk_at "go"
  with_reducible refine i_dec (fun h1 => ?_) (fun h1 => ?_)
  · walk_at "go"
    exact r_leave ‹Sn _ _ _ _ _› en (own := []) (by walk_at "led") rfl (by simp only [countsL, h1, if_true]; exact .none)
  walk_at "go"
  with_reducible refine r_newTD ‹Sn _ _ _ _ _› (xs := iis [2, 3, 4]) (.cons (.int _ _) (.cons (.int _ _) (.cons (.int _ _) .nil))) ?_ (by walk_at "sz")
  intro tb2 s2 g2 hv2 hr2 S2
  with_reducible refine c_inT ‹Sn _ _ _ _ _› r hr2 ?_
  walk_at "go"
  with_reducible refine i_dec (fun h2 => ?_) (fun h2 => ?_)
  · obtain ⟨a, rfl, hka⟩ := pl_block hp h2
    with_reducible refine x_tupS (ns := ["told", "test"]) (by with_unfolding_all rfl) (by rw [he]; with_unfolding_all rfl) (fun _ _ => ?_)
    walk_at "go"
    with_reducible refine s_tup1 ‹Sn _ _ _ _ _› (hrp.up (hv1.trans hv2)) ?_ (by with_unfolding_all rfl); intro t3
    walk_at "go"
    refine i_join (J := fun v s6 => ∃ t, v = .int (if x = 4 then 1 else 0) t ∧ Sn c g2 [("plain", .loc (some (.ref pv))), ("kinds", .loc (some (.ref kv))), ("funcs", .loc (some (.ref fv))), ("code", .cell (Lc + 1) (some (.int x t0))), ("told", .loc none), ("test", .loc none), ("kind", .loc none)] [] s6) ?_ ?_
    · with_reducible refine i_b (fun h3 => ?_) (fun h3 => ?_)
      · walk_at "go"
        have h4 : x = 4 := by simpa using h3
        rw [if_pos h4]; exact ⟨_, rfl, by assumption⟩
      · walk_at "go"
        have h4 : x ≠ 4 := by simpa using h3
        rw [if_neg h4]; exact ⟨_, rfl, by assumption⟩
    rintro v s6 ⟨tt, rfl, S6⟩
    walk_at "go"
    with_reducible refine r_newT ‹Sn _ _ _ _ _› ?_ (by walk_at "sz"); intro ta _ hta S7
    with_reducible refine u_tup ‹Sn _ _ _ _ _› r.hd (Sn.at ‹Sn _ _ _ _ _› (by walk_at "led")) (by with_unfolding_all rfl) ?_; intro s8 S8
    have S9 := S8.drop (List.sublist_cons_self _ _)
    simp only [List.reverse_cons, List.reverse_nil, List.nil_append, List.cons_append]
    walk_at "go"
    have h1' : x ∉ ([0, 12, 14, 15, 18, 19] : List Int) := h1
    with_reducible refine i_dec (fun h3 => ?_) (fun h3 => ?_)
    · walk_at "go"
      refine i_join (J := fun v s6 => ∃ t, v = .int (if a = -64 then 0 else 1) t ∧ Sn c g2 [("plain", .loc (some (.ref pv))), ("kinds", .loc (some (.ref kv))), ("funcs", .loc (some (.ref fv))), ("code", .cell (Lc + 1) (some (.int x t0))), ("told", .loc (some (.int a t3))), ("test", .loc (some (.int (if x = 4 then 1 else 0) tt))), ("kind", .loc none)] [] s6) ?_ ?_
      · with_reducible refine i_b (fun h4 => ?_) (fun h4 => ?_)
        · walk_at "go"
          have h4 : a = -64 := by simpa using h4
          rw [if_pos h4]; exact ⟨_, rfl, by assumption⟩
        · walk_at "go"
          have h4 : a ≠ -64 := by simpa using h4
          rw [if_neg h4]; exact ⟨_, rfl, by assumption⟩
      rintro v s10 ⟨tu, rfl, S10⟩
      walk_at "go"
      with_reducible refine r_newTD ‹Sn _ _ _ _ _› (xs := iis [if x = 4 then 1 else 0, if a = -64 then 0 else 1]) (.cons (.int _ _) (.cons (.int _ _) .nil)) ?_ (by walk_at "sz")
      intro tb3 s11 g11 hv11 hr11 S11
      walk_at "go"
      refine r_leave ‹Sn _ _ _ _ _› en (own := []) (by walk_at "led") rfl ?_
      have e : countsL ks fs [x, a] = some (if x = 4 then 1 else 0, if a = -64 then 0 else 1) := by simp only [countsL, h1, h2, h3, if_true, if_false, List.headD_cons]; rfl
      rw [e]; exact hr11
    · obtain ⟨q, rfl, hq⟩ : ∃ q : Nat, a = q ∧ q < 3 := ⟨a.toNat, by rcases hka with h | h | h | h | h | h <;> walk_at "om", by rcases hka with h | h | h | h | h | h <;> walk_at "om"⟩
      obtain ⟨kd, hkd⟩ : ∃ kd, ks[q]? = some kd := ⟨ks[q]'(by rw [hC.k3]; exact hq), by simp⟩
      have hkl := hC.kl kd (List.mem_of_getElem? hkd)
      have hkD : (kindsD ks)[q]? = some (.tuple [.tuple (iis kd.1), .tuple (iis kd.2)]) := by simp only [List.getElem?_map, hkd, Option.map_some]
      have hrk2 := hrk.up (hv1.trans hv2)
      walk_at "go"
      with_reducible refine s_lstD ‹Sn _ _ _ _ _› hrk2 (k := q) hkD (by walk_at "om") ?_ (by with_unfolding_all rfl); intro v1 hrv1
      obtain ⟨ka, rfl⟩ := hrv1.tup_ref
      walk_at "go"
      with_reducible refine s_tup0G ‹Sn _ _ _ _ _› hrv1 ?_ (by with_unfolding_all rfl); intro v2 hrv2
      obtain ⟨kb, rfl⟩ := hrv2.tup_ref
      walk_at "go"
      with_reducible refine r_lenTD ‹Sn _ _ _ _ _› hrv2 (by simp only [List.length_map, sizeLine]; walk_at "om") ?_; intro t5 s12 S12
      walk_at "go"
      with_reducible refine s_lstD ‹Sn _ _ _ _ _› hrk2 (k := q) hkD (by walk_at "om") ?_ (by with_unfolding_all rfl); intro v3 hrv3
      obtain ⟨kc, rfl⟩ := hrv3.tup_ref
      walk_at "go"
      with_reducible refine s_tup1G ‹Sn _ _ _ _ _› hrv3 ?_ (by with_unfolding_all rfl); intro v4 hrv4
      obtain ⟨ke, rfl⟩ := hrv4.tup_ref
      walk_at "go"
      with_reducible refine r_lenTD ‹Sn _ _ _ _ _› hrv4 (by simp only [List.length_map, sizeLine]; walk_at "om") ?_; intro t6 s13 S13
      walk_at "go"
      with_reducible refine r_newTD ‹Sn _ _ _ _ _› (xs := iis [(if x = 4 then 1 else 0) + ((iis kd.1).length : Int), ((iis kd.2).length : Int)]) (.cons (.int _ _) (.cons (.int _ _) .nil)) ?_ (by walk_at "sz")
      intro tb3 s11 g11 hv11 hr11 S11
      walk_at "go"
      refine r_leave ‹Sn _ _ _ _ _› en (own := []) (by walk_at "led") rfl ?_
      have e : countsL ks fs [x, (q : Int)] = some ((if x = 4 then 1 else 0) + ((iis kd.1).length : Int), ((iis kd.2).length : Int)) := by
        simp only [countsL, h1, h2, h3, if_true, if_false, List.headD_cons, klen, Int.toNat_natCast, hkd, List.length_map]
      rw [e]; exact hr11
  walk_at "go"
  with_reducible refine r_newTD ‹Sn _ _ _ _ _› (xs := iis [16, 17]) (.cons (.int _ _) (.cons (.int _ _) .nil)) ?_ (by walk_at "sz")
  intro tb3 s3 g3 hv3 hr3 S3
  with_reducible refine c_inT ‹Sn _ _ _ _ _› r hr3 ?_
  walk_at "go"
  have hv13 := (hv1.trans hv2).trans hv3
  with_reducible refine i_dec (fun h3 => ?_) (fun h3 => ?_)
  · obtain ⟨y, l', rfl⟩ : ∃ y l', l = y :: l' := by
      simp only [List.mem_cons, List.not_mem_nil, or_false] at h3
      rcases h3 with rfl | rfl
      · obtain ⟨f, e, _⟩ := pl_16 hp; exact ⟨f, [], e⟩
      · obtain ⟨f, b, e, _⟩ := pl_17 hp; exact ⟨f, [b], e⟩
    obtain ⟨kk, hkk, hk3⟩ : ∃ kk : Nat, (if x = 16 then fs.getD y.toNat 0 else y) = (kk : Int) ∧ kk < 3 := by
      simp only [List.mem_cons, List.not_mem_nil, or_false] at h3
      rcases h3 with rfl | rfl
      · obtain ⟨f, e, h0, hf⟩ := pl_16 hp
        cases e
        have hlt : y.toNat < fs.length := by walk_at "om"
        have := hC.fk _ (List.getElem_mem hlt)
        refine ⟨(fs.getD y.toNat 0).toNat, ?_, ?_⟩
        · rw [if_pos rfl, List.getD_eq_getElem?_getD, List.getElem?_eq_getElem hlt]; simp only [Option.getD_some]; walk_at "om"
        · rw [List.getD_eq_getElem?_getD, List.getElem?_eq_getElem hlt]; simp only [Option.getD_some]; walk_at "om"
      · obtain ⟨f, b, e, h0, hf⟩ := pl_17 hp
        cases e
        exact ⟨y.toNat, by rw [if_neg (by decide)]; walk_at "om", by walk_at "om"⟩
    walk_at "go"
    refine i_join (J := fun v s6 => ∃ t, v = .int (kk : Int) t ∧ Sn c g3 [("plain", .loc (some (.ref pv))), ("kinds", .loc (some (.ref kv))), ("funcs", .loc (some (.ref fv))), ("code", .cell (Lc + 1) (some (.int x t0))), ("told", .loc none), ("test", .loc none), ("kind", .loc none)] [] s6) ?_ ?_
    · with_reducible refine i_b (fun h4 => ?_) (fun h4 => ?_)
      · have h4 : x = 16 := by simpa using h4
        walk_at "go"
        with_reducible refine s_tup1 ‹Sn _ _ _ _ _› (hrp.up hv13) ?_ (by with_unfolding_all rfl); intro t3
        subst h4
        obtain ⟨f, e, h0, hf⟩ := pl_16 hp
        cases e
        have hlt : y.toNat < fs.length := by walk_at "om"
        obtain ⟨yn, rfl⟩ : ∃ yn : Nat, y = yn := ⟨y.toNat, by walk_at "om"⟩
        rw [if_pos rfl, List.getD_eq_getElem?_getD, List.getElem?_eq_getElem hlt] at hkk
        simp only [Option.getD_some, Int.toNat_natCast] at hkk
        have hfd : (iis fs)[yn]? = some (.int (kk : Int)) := by
          simp only [List.getElem?_map]
          rw [List.getElem?_eq_getElem (by simpa using hlt), Option.map_some, hkk]
        with_reducible refine s_lstD ‹Sn _ _ _ _ _› (hrf.up hv13) (k := yn) hfd (by have := hC.f5; walk_at "om") ?_ (by with_unfolding_all rfl); intro v1 hrv1
        obtain ⟨t9, rfl⟩ := hrv1.int_inv
        exact ⟨_, rfl, by assumption⟩
      · have h4 : x ≠ 16 := by simpa using h4
        walk_at "go"
        with_reducible refine s_tup1 ‹Sn _ _ _ _ _› (hrp.up hv13) ?_ (by with_unfolding_all rfl); intro t3
        rw [if_neg h4] at hkk
        subst hkk
        exact ⟨_, rfl, by assumption⟩
    rintro v s6 ⟨tt, rfl, S6⟩
    obtain ⟨kd, hkd⟩ : ∃ kd, ks[kk]? = some kd := ⟨ks[kk]'(by rw [hC.k3]; exact hk3), by simp⟩
    have hkl := hC.kl kd (List.mem_of_getElem? hkd)
    have hkD : (kindsD ks)[kk]? = some (.tuple [.tuple (iis kd.1), .tuple (iis kd.2)]) := by simp only [List.getElem?_map, hkd, Option.map_some]
    with_reducible refine s_lstD ‹Sn _ _ _ _ _› (hrk.up hv13) (k := kk) hkD (by walk_at "om") ?_ (by with_unfolding_all rfl); intro v1 hrv1
    obtain ⟨ka, rfl⟩ := hrv1.tup_ref
    walk_at "go"
    with_reducible refine s_tup0G ‹Sn _ _ _ _ _› hrv1 ?_ (by with_unfolding_all rfl); intro v2 hrv2
    obtain ⟨kb, rfl⟩ := hrv2.tup_ref
    walk_at "go"
    with_reducible refine r_lenTD ‹Sn _ _ _ _ _› hrv2 (by simp only [List.length_map, sizeLine]; walk_at "om") ?_; intro t5 s12 S12
    walk_at "go"
    with_reducible refine s_tup1G ‹Sn _ _ _ _ _› hrv1 ?_ (by with_unfolding_all rfl); intro v4 hrv4
    obtain ⟨ke, rfl⟩ := hrv4.tup_ref
    walk_at "go"
    with_reducible refine r_lenTD ‹Sn _ _ _ _ _› hrv4 (by simp only [List.length_map, sizeLine]; walk_at "om") ?_; intro t6 s13 S13
    walk_at "go"
    with_reducible refine r_newTD ‹Sn _ _ _ _ _› (xs := iis [((iis kd.1).length : Int) + x - 16, ((iis kd.2).length : Int)]) (.cons (.int _ _) (.cons (.int _ _) .nil)) ?_ (by walk_at "sz")
    intro tb4 s11 g11 hv11 hr11 S11
    walk_at "go"
    refine r_leave ‹Sn _ _ _ _ _› en (own := []) (by walk_at "led") rfl ?_
    have e : countsL ks fs (x :: y :: l') = some (((iis kd.1).length : Int) + x - 16, ((iis kd.2).length : Int)) := by
      simp only [countsL, h1, h2, h3, if_true, if_false, List.headD_cons, hkk, klen, Int.toNat_natCast, hkd, List.length_map]
    rw [e]; exact hr11
  walk_at "go"
  obtain ⟨ra, rb, hhd⟩ := pl_else hp h1 h2 h3
  with_reducible refine e_comp (cl := [("code", Lc + 1)]) (by rw [he]; with_unfolding_all rfl) (by with_unfolding_all rfl) (by kernel_rfl) ?_ (by intro _; with_unfolding_all rfl)
  walk_at "go"
  with_reducible refine r_call0L ‹Sn _ _ _ _ _› (r.le (Nat.le_add_left 1 d)) (sp_spans (d := 0) T) ?_
  intro sa ws wn s7 g7 S7 hv7 hr7 hgs hrs
  have hwl := hrs.length
  simp only [List.length_map] at hwl
  with_reducible refine iter_list S7 hgs ?_; intro I o s12 S12 hI
  refine comp_itr (own := []) (mc0 := [("first", .loc none), ("last", .loc none), ("takes", .loc none), ("puts", .loc none), ("many", .loc none), ("code", .ro (Lc + 1) (.int x t0))]) (gls := []) itr_list  (fun mc => ∃ u1 u2 u3 u4 u5, mc = ([("first", .loc u1), ("last", .loc u2), ("takes", .loc u3), ("puts", .loc u4), ("many", .loc u5), ("code", .ro (Lc + 1) (.int x t0))] : Loc))  (fun i g own vs => own = [] ∧ VSub g7 g ∧ RdAll g vs ((((spansL.take i).filter (inSpan x)).map pairOf).map fun l => .tuple (iis l)) ∧ vs.length ≤ i ∧ i ≤ spansL.length) he ?hok ?gb ?sl ⟨_, _, _, _, _, rfl⟩ r.hd .tup (.inl rfl) S12 (by walk_at "led") hI ⟨rfl, VSub.refl _, .nil, Nat.le_refl _, Nat.zero_le _⟩ ?len ?step2 ?fin2
  case hok => kernel_rfl
  case gb => exact T.glb (by walk_at "gls")
  case sl => exact .loc (by kernel_rfl) (by kernel_rfl) (.loc (by kernel_rfl) (by kernel_rfl) (.loc (by kernel_rfl) (by kernel_rfl) (.loc (by kernel_rfl) (by kernel_rfl) (.loc (by kernel_rfl) (by kernel_rfl) (.ro (by kernel_rfl) (by kernel_rfl) (by kernel_rfl) (.tail _ (.tail _ (.tail _ (.head _)))) .nil)))))
  case len => rintro i g own vs ⟨_, _, _, hl, hl2⟩; have : spansL.length = 42 := rfl; show vs.length < 2 ^ 24; walk_at "om"
  case step2 =>
    intro c' C D i v g0 g mc oi own' vs k s E' he' hgl' hG' hi2 hv2 hP hT hQ21 hw hQ23 S'
    refine hide5 v mc oi own' vs fun XX hXX => ?_
    obtain ⟨rfl, hvv, hia2, hll, hlk⟩ := hQ21
    obtain ⟨u1, u2, u3, u4, u5, rfl⟩ := hQ23
    obtain ⟨xd, hxd, hrxd⟩ := (hrs.up (hvv.trans hv2)).get hP
    rw [List.getElem?_map] at hxd
    obtain ⟨sp, hsp, rfl⟩ := Option.map_eq_some_iff.mp hxd
    obtain ⟨a1, a2, a3, a4, a5, rfl⟩ := spans5 sp (List.mem_of_getElem? hsp)
    obtain ⟨ta, us, un, rfl, hgu, hru⟩ := hrxd.tup_inv
    obtain ⟨t1, t2, t3, t4, t5, rfl⟩ : ∃ t1 t2 t3 t4 t5, us = [.int a1 t1, .int a2 t2, .int a3 t3, .int a4 t4, .int a5 t5] := by
      have := ints_rd hru
      cases this with | cons _ t1 h => cases h with | cons _ t2 h => cases h with | cons _ t3 h => cases h with | cons _ t4 h => cases h with | cons _ t5 h => cases h; exact ⟨_, _, _, _, _, rfl⟩
    have hil := (List.getElem?_eq_some_iff.mp hsp).1
    refine hXX _ _ _ _ _ ?_
    clear hXX
    refine a_tup S' r.hd (S'.see hgu) (by with_unfolding_all rfl) (by with_unfolding_all rfl) ?_; intro s5 S5
    walk_at "go"
    have hno : ¬ (a1 ≤ x ∧ x ≤ a2) → List.filter (inSpan x) [[a1, a2, a3, a4, a5]] = [] := fun h => by
      rw [List.filter_cons_of_neg]; rfl
      simp only [inSpan, Bool.and_eq_true, decide_eq_true_eq]; exact h
    with_reducible refine i_dec (fun q1 => ?_) (fun q1 => ?_)
    · walk_at "go"
      with_reducible refine i_dec (fun q2 => ?_) (fun q2 => ?_)
      · walk_at "go"
        with_reducible refine r_newTD ‹Sn _ _ _ _ _› (xs := iis [a3, a4]) (.cons (.int _ _) (.cons (.int _ _) .nil)) ?_ (by walk_at "sz")
        intro tb4 s11 g11 hv11 hr11 S11
        refine comp_next (g' := g11) hv11 ⟨_, _, _, _, _, rfl⟩ ⟨rfl, (hvv.trans hv2).trans hv11, ?_, by simp only [List.length_append, List.length_singleton]; walk_at "om", by walk_at "om"⟩ rfl S11
        have hyes : List.filter (inSpan x) [[a1, a2, a3, a4, a5]] = [[a1, a2, a3, a4, a5]] := by
          rw [List.filter_cons_of_pos]; rfl
          simp [inSpan, q1, q2]
        rw [take_succ_get hsp, List.filter_append, hyes, List.map_append, List.map_append]
        exact RdAll.append (hia2.up (hv2.trans hv11)) (.cons hr11 .nil)
      · walk_at "go"
        refine comp_next (g' := g) (VSub.refl _) ⟨_, _, _, _, _, rfl⟩ ⟨rfl, hvv.trans hv2, ?_, by walk_at "om", by walk_at "om"⟩ rfl (by assumption)
        rw [take_succ_get hsp, List.filter_append, hno (fun h => q2 h.2), List.append_nil]
        exact hia2.up hv2
    · walk_at "go"
      refine comp_next (g' := g) (VSub.refl _) ⟨_, _, _, _, _, rfl⟩ ⟨rfl, hvv.trans hv2, ?_, by walk_at "om", by walk_at "om"⟩ rfl (by assumption)
      rw [take_succ_get hsp, List.filter_append, hno (fun h => q1 h.1), List.append_nil]
      exact hia2.up hv2
  case fin2 =>
    intro D g2 own2 vs2 k2 s2 hD2 hv2 hQ8 hw2 S2
    refine hide2 own2 vs2 fun XX hXX => ?_
    obtain ⟨rfl, hvv, hia2, hll, hlk⟩ := hQ8
    simp only [List.nil_append] at S2
    rw [hwl, List.take_length] at hia2
    refine Sn.lockK S2 (by walk_at "led") hD2 fun g4 hv4 hg4 S5 => ?_
    refine hXX _ _ ?_
    clear hXX
    walk_at "go"
    have hx0 : ((((spansL.filter (inSpan x)).map pairOf).map fun l => PyData.tuple (iis l)))[0]? = some (.tuple (iis [ra, rb])) := by
      rw [List.getElem?_map, ← List.head?_eq_getElem?, hhd]; rfl
    refine s_lstD (k := 0) ‹Sn _ _ _ _ _› (.lst hg4 (hia2.up hv4)) hx0 (by decide) ?_ (by with_unfolding_all rfl); intro v1 hrv1
    walk_at "go"
    refine r_leave ‹Sn _ _ _ _ _› en (own := []) (by walk_at "led") rfl ?_
    have e : countsL ks fs (x :: l) = some (ra, rb) := by simp only [countsL, h1, h2, h3, if_false, hhd]
    rw [e]; exact hrv1


-- F10
noncomputable abbrev NumRow := Int × Int × List Int × List Int
noncomputable def numL : List NumRow := [(69, 69, [-1], [-1]), (70, 79, [-1, -1], [-1]), (80, 80, [-2], [-1]), (81, 90, [-2, -2], [-1]), (103, 105, [-1], [-1]), (106, 120, [-1, -1], [-1]), (121, 123, [-2], [-2]), (124, 138, [-2, -2], [-2]), (167, 167, [-2], [-1]), (172, 173, [-1], [-2]), (192, 193, [-1], [-1]), (194, 196, [-2], [-2])]
noncomputable abbrev numRowD (r : NumRow) : PyData := .tuple [.int r.1, .int r.2.1, .tuple (iis r.2.2.1), .tuple (iis r.2.2.2)]
noncomputable def numIn (c : Int) (r : NumRow) : Bool := decide (r.1 ≤ c) && decide (c ≤ r.2.1)
noncomputable def kindD : Option (List Int × List Int) → PyData
  | none => .none
  | some (p, r) => .tuple [.tuple (iis p), .tuple (iis r)]
noncomputable def numKind (c : Int) : Option (List Int × List Int) := (numL.find? (numIn c)).map fun r => (r.2.2.1, r.2.2.2)
set_option maxHeartbeats 1000000 in
theorem sp_number {w : World} {G0 : Heap} (T : Tp w G0) {d : Nat} {g : Vis} {x : Int} {tk : Tok} : Ct pw w G0 (d + 1) (.ref 129) [.int x tk] g [] (PData (kindD (numKind x))) := by
  refine ent (gls := [("NUMBERS", .ref 122)]) (m := [("code", .loc (some (.int x tk))), ("least", .loc none), ("most", .loc none), ("params", .loc none), ("results", .loc none)]) (binds := [("code", .int x tk)]) (rest := ["least", "most", "params", "results"]) (T.K 129 o129 (by kernel_rfl)) (show o129.data = .func fd129 from rfl) T.nolim (codeRec_of T.K (by kernel_rfl)) rfl rfl rfl (fun _ _ => BindsTo.of_eq rfl) rfl (by kernel_rfl) (T.glb (by walk_at "gls")) ?_
  intro c s A r hG hgl he en S
  subst hG
  have hr : Rd g (.ref 122) (.tuple (numL.map numRowD)) := S.rdTop T (n := 30) (by kernel_rfl)
  obtain ⟨_, vs, n0, e0, hga, hra⟩ := hr.tup_inv
  cases e0
  have hlen := hra.length
  rw [List.length_map] at hlen
  walk_at "go"
  with_reducible refine iter_tup ‹Sn _ _ _ _ _› hga ?_; intro I o s' S' hI
  refine for_itr itr_tup (fun i g' m news => VSub g g' ∧ ∃ u1 u2 u3 u4, news = [] ∧ (numL.take i).find? (numIn x) = none ∧  m = ([("code", .loc (some (.int x tk))), ("least", .loc u1), ("most", .loc u2), ("params", .loc u3), ("results", .loc u4)] : Loc)) r.hd .tup (.inl rfl) S' hI ⟨VSub.refl _, _, _, _, _, rfl, rfl, rfl⟩ ?step ?fin
  case step =>
    intro i v g0 g1 m own news s E' hi hv0 hP hT hQ13 S'
    refine hide4 v m own news fun XX hXX => ?_
    obtain ⟨hvs, u1, u2, u3, u4, rfl, hno, rfl⟩ := hQ13
    obtain ⟨y, hy, hry⟩ := (hra.up (hvs.trans hv0)).get hP
    rw [List.getElem?_map] at hy
    obtain ⟨row, hrow, rfl⟩ := Option.map_eq_some_iff.mp hy
    obtain ⟨a1, a2, a3, a4⟩ := row
    obtain ⟨ta, us, un, rfl, hgu, hru⟩ := hry.tup_inv
    cases hru with | cons h1 hru => cases hru with | cons h2 hru => cases hru with | cons h3 hru => cases hru with | cons h4 hru =>
    refine hXX _ _ _ _ ?_
    clear hXX
    cases hru
    obtain ⟨t1, rfl⟩ := h1.int_inv
    obtain ⟨t2, rfl⟩ := h2.int_inv
    refine a_tup S' r.hd (S'.see hgu) (by with_unfolding_all rfl) (by with_unfolding_all rfl) ?_; intro s5 S5
    walk_at "go"
    have hnx : ¬ (a1 ≤ x ∧ x ≤ a2) → (numL.take (i + 1)).find? (numIn x) = none := fun h => by
      rw [take_succ_get hrow, List.find?_append, hno]
      have hf : numIn x (a1, a2, a3, a4) = false := by
        cases e : numIn x (a1, a2, a3, a4) with
        | false => rfl
        | true => simp only [numIn, Bool.and_eq_true, decide_eq_true_eq] at e; exact absurd e h
      simp [List.find?_cons, hf]
    with_reducible refine i_dec (fun q1 => ?_) (fun q1 => ?_)
    · walk_at "go"
      with_reducible refine i_dec (fun q2 => ?_) (fun q2 => ?_)
      · walk_at "go"
        with_reducible refine r_newTD ‹Sn _ _ _ _ _› (.cons h3 (.cons h4 .nil)) ?_ (by walk_at "sz")
        intro tb s11 g11 hv11 hr11 S11
        walk_at "go"
        refine r_leave ‹Sn _ _ _ _ _› en (own := []) (by simp only [List.append_nil]; walk_at "led") rfl ?_
        have e : numKind x = some (a3, a4) := by
          have hyes : numIn x (a1, a2, a3, a4) = true := by simp [numIn, q1, q2]
          have h0 : numL.find? (numIn x) = some (a1, a2, a3, a4) := by
            have h := List.take_append_drop (i + 1) numL
            rw [← h, List.find?_append, take_succ_get hrow, List.find?_append, hno]
            simp [List.find?_cons, hyes]
          simp [numKind, h0]
        rw [e]; exact hr11
      · walk_at "go"
        exact loop_next (g' := g1) (VSub.refl _) ⟨hvs.trans hv0, _, _, _, _, rfl, hnx (fun h => q2 h.2), rfl⟩ (by assumption)
    · walk_at "go"
      exact loop_next (g' := g1) (VSub.refl _) ⟨hvs.trans hv0, _, _, _, _, rfl, hnx (fun h => q1 h.1), rfl⟩ (by assumption)
  case fin =>
    intro g1 m news s hQ4 S'
    refine hide2 m news fun XX hXX => ?_
    obtain ⟨hvs, u1, u2, u3, u4, rfl, hno, rfl⟩ := hQ4
    refine hXX _ _ ?_
    clear hXX
    walk_at "go"
    refine r_leave ‹Sn _ _ _ _ _› en (own := []) (by walk_at "led") rfl ?_
    rw [hlen, List.take_length] at hno
    have e : numKind x = none := by simp [numKind, hno]
    rw [e]; exact .none


-- F11
noncomputable def l43 : List (Int × Tok × Value) := [(1, 212, .ref 46), (63, 260, .ref 49), (64, 262, .ref 52), (65, 264, .ref 55), (66, 266, .ref 58), (210, 272, .ref 61), (64520, 274, .ref 64), (64521, 276, .ref 67), (64522, 278, .ref 70), (64523, 280, .ref 73), (64524, 282, .ref 76), (64525, 284, .ref 79), (64526, 286, .ref 82), (64528, 290, .ref 85)]
noncomputable def l22 : List (Int × Tok × Value) := [(40, 294, .ref 23), (41, 297, .ref 24), (44, 300, .ref 25), (45, 303, .ref 26), (46, 306, .ref 27), (47, 309, .ref 28), (48, 312, .ref 29), (49, 315, .ref 30), (50, 318, .ref 31), (51, 321, .ref 32), (52, 324, .ref 33), (53, 327, .ref 34)]
noncomputable def l35 : List (Int × Tok × Value) := [(54, 343, .ref 36), (55, 345, .ref 37), (58, 347, .ref 38), (59, 349, .ref 39), (60, 351, .ref 40), (61, 353, .ref 41), (62, 355, .ref 42)]
noncomputable def fixL : List (Int × List Int × List Int) := [(1, [], []), (63, [], [-1]), (64, [-1], [-1]), (65, [], [-1]), (66, [], [-2]), (210, [], [-16]), (64520, [-1, -1, -1], []), (64521, [], []), (64522, [-1, -1, -1], []), (64523, [-1, -1, -1], []), (64524, [-1, -1, -1], []), (64525, [], []), (64526, [-1, -1, -1], []), (64528, [], [-1])]
noncomputable def loadL : List (Int × Int × List Int) := [(40, -1, [4, 0]), (41, -2, [8, 0]), (44, -1, [1, 1]), (45, -1, [1, 0]), (46, -1, [2, 1]), (47, -1, [2, 0]), (48, -2, [1, 1]), (49, -2, [1, 0]), (50, -2, [2, 1]), (51, -2, [2, 0]), (52, -2, [4, 1]), (53, -2, [4, 0])]
noncomputable def storeL : List (Int × Int × List Int) := [(54, -1, [4]), (55, -2, [8]), (58, -1, [1]), (59, -1, [2]), (60, -2, [1]), (61, -2, [2]), (62, -2, [4])]
noncomputable def fixD : List (Int × PyData) := fixL.map fun x => (x.1, .tuple [.tuple (iis x.2.1), .tuple (iis x.2.2)])
noncomputable def rowD (l : List (Int × Int × List Int)) : List (Int × PyData) := l.map fun x => (x.1, .tuple (iis (x.2.1 :: x.2.2)))
noncomputable def stackOf (c : Int) : Option (List Int × List Int) :=
  match fixL.find? (fun x => x.1 == c) with
  | some x => some x.2
  | none => match loadL.find? (fun x => x.1 == c) with
    | some x => some ([-1], [x.2.1])
    | none => match storeL.find? (fun x => x.1 == c) with
      | some x => some ([-1, x.2.1], [])
      | none => numKind c
theorem o43_eq (P : Params) : o43 P = intDictO l43 14 := rfl
theorem o22_eq (P : Params) : o22 P = intDictO l22 12 := rfl
theorem o35_eq (P : Params) : o35 P = intDictO l35 7 := rfl
theorem d43 (w : World) : (o43 w.params).IsDictOf (intKind pw w) (l43.map fun x => (x.1, x.2.2)) := by rw [o43_eq]; exact intDict (by decide +kernel) (by decide +kernel)
theorem d22 (w : World) : (o22 w.params).IsDictOf (intKind pw w) (l22.map fun x => (x.1, x.2.2)) := by rw [o22_eq]; exact intDict (by decide +kernel) (by decide +kernel)
theorem d35 (w : World) : (o35 w.params).IsDictOf (intKind pw w) (l35.map fun x => (x.1, x.2.2)) := by rw [o35_eq]; exact intDict (by decide +kernel) (by decide +kernel)
theorem find_fix (x : Int) : fixD.find? (fun d => d.1 == x) = (fixL.find? (fun d => d.1 == x)).map fun d => (d.1, .tuple [.tuple (iis d.2.1), .tuple (iis d.2.2)]) := by unfold fixD; rw [List.find?_map]; rfl
theorem find_row (l : List (Int × Int × List Int)) (x : Int) : (rowD l).find? (fun d => d.1 == x) = (l.find? (fun d => d.1 == x)).map fun d => (d.1, .tuple (iis (d.2.1 :: d.2.2))) := by unfold rowD; rw [List.find?_map]; rfl
set_option maxHeartbeats 1000000 in
theorem sp_stack {w : World} {G0 : Heap} (T : Tp w G0) {d : Nat} {g : Vis} {x : Int} {tk : Tok} : Ct pw w G0 (d + 2) (.ref 136) [.int x tk] g [] (PData (kindD (stackOf x))) := by
  refine ent (gls := [("FIXED", .ref 43), ("LOADS", .ref 22), ("I32", .int (-1) 195), ("STORES", .ref 35), ("number_kind", .ref 129)]) (m := [("code", .loc (some (.int x tk)))]) (binds := [("code", .int x tk)]) (rest := []) (T.K 136 o136 (by kernel_rfl)) (show o136.data = .func fd136 from rfl) T.nolim (codeRec_of T.K (by kernel_rfl)) rfl rfl rfl (fun _ _ => BindsTo.of_eq rfl) rfl (by kernel_rfl) (T.glb (by walk_at "gls")) ?_
  intro c s A r hG hgl he en S
  subst hG
  have e43 : c.G0.get? 43 = some (o43 w.params) := T.K 43 _ (by kernel_rfl)
  have e22 : c.G0.get? 22 = some (o22 w.params) := T.K 22 _ (by kernel_rfl)
  have e35 : c.G0.get? 35 = some (o35 w.params) := T.K 35 _ (by kernel_rfl)
  have hgK : ∀ a o, (KK w.params).lookup a = some o → g a = some o := fun a o e => by have := S.st.gg a o (T.K a o e); have q := en.g₀; simp only [Cx.fx] at this; rwa [q] at this
  have r43 : RdAll g ((l43.map fun x => (x.1, x.2.2)).map (·.2)) (fixD.map (·.2)) := readsK_ok hgK 60 _ _ (by kernel_rfl)
  have r22 : RdAll g ((l22.map fun x => (x.1, x.2.2)).map (·.2)) ((rowD loadL).map (·.2)) := readsK_ok hgK 60 _ _ (by kernel_rfl)
  have r35 : RdAll g ((l35.map fun x => (x.1, x.2.2)).map (·.2)) ((rowD storeL).map (·.2)) := readsK_ok hgK 60 _ _ (by kernel_rfl)
  walk_at "go"
  with_reducible refine c_inD ‹Sn _ _ _ _ _› (Sn.top ‹Sn _ _ _ _ _› e43) (d43 w) (by decide) ?_; intro s1 S1
  walk_at "go"
  rcases valueAt_rd (by decide +kernel) r43 x with ⟨hn, hf⟩ | ⟨v, dd, hv, hf, hr⟩
  rotate_left
  · rw [hv]
    with_reducible refine i_yes rfl ?_
    walk_at "go"
    with_reducible refine s_dictI ‹Sn _ _ _ _ _› (Sn.top ‹Sn _ _ _ _ _› e43) (d43 w) hv ?_ (by with_unfolding_all rfl); intro s2 S2
    walk_at "go"
    rw [find_fix] at hf
    obtain ⟨y, hy, hy2⟩ := Option.map_eq_some_iff.mp hf
    cases hy2
    refine r_leave ‹Sn _ _ _ _ _› en (own := []) (by walk_at "led") rfl ?_
    have e : stackOf y.1 = some y.2 := by unfold stackOf; rw [hy]
    rw [e]; exact hr
  have f1 : fixL.find? (fun d => d.1 == x) = none := by rw [find_fix] at hf; simpa using hf
  rw [hn]
  with_reducible refine i_no rfl ?_
  walk_at "go"
  with_reducible refine c_inD ‹Sn _ _ _ _ _› (Sn.top ‹Sn _ _ _ _ _› e22) (d22 w) (by decide) ?_; intro s3 S3
  walk_at "go"
  rcases valueAt_rd (by decide +kernel) r22 x with ⟨hn2, hf2⟩ | ⟨v, dd, hv, hf2, hr⟩
  rotate_left
  · rw [hv]
    with_reducible refine i_yes rfl ?_
    rw [find_row] at hf2
    obtain ⟨y, hy, hy2⟩ := Option.map_eq_some_iff.mp hf2
    cases hy2
    obtain ⟨va, rfl⟩ := hr.tup_ref
    walk_at "go"
    with_reducible refine r_newTD ‹Sn _ _ _ _ _› (xs := iis [-1]) (.cons (.int _ _) .nil) ?_ (by walk_at "sz")
    intro tb s4 g4 hv4 hr4 S4
    walk_at "go"
    with_reducible refine s_dictI ‹Sn _ _ _ _ _› (Sn.top ‹Sn _ _ _ _ _› e22) (d22 w) hv ?_ (by with_unfolding_all rfl); intro s5 S5
    walk_at "go"
    with_reducible refine s_tup0 ‹Sn _ _ _ _ _› (hr.up hv4) ?_ (by with_unfolding_all rfl); intro t'
    walk_at "go"
    with_reducible refine r_newTD ‹Sn _ _ _ _ _› (xs := iis [y.2.1]) (.cons (.int _ _) .nil) ?_ (by walk_at "sz")
    intro tc s6 g6 hv6 hr6 S6
    walk_at "go"
    with_reducible refine r_newTD ‹Sn _ _ _ _ _› (.cons (hr4.up hv6) (.cons hr6 .nil)) ?_ (by walk_at "sz")
    intro td s7 g7 hv7 hr7 S7
    walk_at "go"
    refine r_leave ‹Sn _ _ _ _ _› en (own := []) (by walk_at "led") rfl ?_
    have e : stackOf y.1 = some ([-1], [y.2.1]) := by unfold stackOf; rw [f1, hy]
    rw [e]; exact hr7
  have f2 : loadL.find? (fun d => d.1 == x) = none := by rw [find_row] at hf2; simpa using hf2
  rw [hn2]
  with_reducible refine i_no rfl ?_
  walk_at "go"
  with_reducible refine c_inD ‹Sn _ _ _ _ _› (Sn.top ‹Sn _ _ _ _ _› e35) (d35 w) (by decide) ?_; intro s3 S3
  walk_at "go"
  rcases valueAt_rd (by decide +kernel) r35 x with ⟨hn3, hf3⟩ | ⟨v, dd, hv, hf3, hr⟩
  rotate_left
  · rw [hv]
    with_reducible refine i_yes rfl ?_
    rw [find_row] at hf3
    obtain ⟨y, hy, hy2⟩ := Option.map_eq_some_iff.mp hf3
    cases hy2
    obtain ⟨va, rfl⟩ := hr.tup_ref
    walk_at "go"
    with_reducible refine s_dictI ‹Sn _ _ _ _ _› (Sn.top ‹Sn _ _ _ _ _› e35) (d35 w) hv ?_ (by with_unfolding_all rfl); intro s5 S5
    walk_at "go"
    with_reducible refine s_tup0 ‹Sn _ _ _ _ _› hr ?_ (by with_unfolding_all rfl); intro t'
    walk_at "go"
    with_reducible refine r_newTD ‹Sn _ _ _ _ _› (xs := iis [-1, y.2.1]) (.cons (.int _ _) (.cons (.int _ _) .nil)) ?_ (by walk_at "sz")
    intro tb s4 g4 hv4 hr4 S4
    walk_at "go"
    with_reducible refine r_newTD ‹Sn _ _ _ _ _› (xs := []) .nil ?_ (by walk_at "sz")
    intro tc s6 g6 hv6 hr6 S6
    walk_at "go"
    with_reducible refine r_newTD ‹Sn _ _ _ _ _› (.cons (hr4.up hv6) (.cons hr6 .nil)) ?_ (by walk_at "sz")
    intro td s7 g7 hv7 hr7 S7
    walk_at "go"
    refine r_leave ‹Sn _ _ _ _ _› en (own := []) (by walk_at "led") rfl ?_
    have e : stackOf y.1 = some ([-1, y.2.1], []) := by unfold stackOf; rw [f1, f2, hy]
    rw [e]; exact hr7
  have f3 : storeL.find? (fun d => d.1 == x) = none := by rw [find_row] at hf3; simpa using hf3
  rw [hn3]
  with_reducible refine i_no rfl ?_
  walk_at "go"
  with_reducible refine r_call0 ‹Sn _ _ _ _ _› (r.le (Nat.le_add_left 1 d)) (sp_number (d := 0) T) ?_
  intro v7 s7 g7 S7 hv7 hr7
  walk_at "go"
  refine r_leave S7 en (own := []) (by walk_at "led") rfl ?_
  have e : stackOf x = numKind x := by unfold stackOf; rw [f1, f2, f3]
  rw [e]; exact hr7


-- F12
noncomputable abbrev Tk3 := Tok × Tok × Tok
noncomputable abbrev pcE (P : Params) (k : Tk3) (p f s : Value) : List DictEntry := [dE P (Str.ofString "plain") k.1 p, dE P (Str.ofString "first") k.2.1 f, dE P (Str.ofString "second") k.2.2 s]
noncomputable abbrev pcO (P : Params) (k : Tk3) (p f s : Value) (n : Nat) : Obj := dictOf (pcE P k p f s) n
theorem cls191 (P : Params) : clsB (KK P) 191 = true := by kernel_rfl
theorem f_plain (P : Params) : fldB (KK P) 191 "plain" = true := by kernel_rfl
theorem f_first (P : Params) : fldB (KK P) 191 "first" = true := by kernel_rfl
theorem f_second (P : Params) : fldB (KK P) 191 "second" = true := by kernel_rfl
theorem cls280 (P : Params) : clsB (KK P) 280 = true := by kernel_rfl
theorem cls308 (P : Params) : clsB (KK P) 308 = true := by kernel_rfl
theorem cls336 (P : Params) : clsB (KK P) 336 = true := by kernel_rfl
theorem cls451 (P : Params) : clsB (KK P) 451 = true := by kernel_rfl
section
variable {w : World} {A : Around} {E : Value → Shared → Prop} {s : Shared} {c : Cx} {g : Vis} {m : Loc} {news : Led}
theorem pc_plain {x dx : Addr} {k : Tk3} {n : Nat} {p f sd : Value} {ex : Bool} {Q : Value → Shared → Prop} (S : Sn c g m news s) (T : Tp w c.G0) (h1 : g x = some (instObj 191 dx)) (h2 : LMem dx (pcO w.params k p f sd n) news) (hv : handedIn p = true) (h : ∀ s', Sn c g m news s' → Q p s') :
    wpAny (model pw w) A (getAttr (.ref x) (Str.ofString "plain") ex) Q E s := o_getD S T h1 h2 (cls191 _) (f_plain _) (by kernel_rfl) hv h
theorem pc_first {x dx : Addr} {k : Tk3} {n : Nat} {p f sd : Value} {ex : Bool} {Q : Value → Shared → Prop} (S : Sn c g m news s) (T : Tp w c.G0) (h1 : g x = some (instObj 191 dx)) (h2 : LMem dx (pcO w.params k p f sd n) news) (hv : handedIn f = true) (h : ∀ s', Sn c g m news s' → Q f s') :
    wpAny (model pw w) A (getAttr (.ref x) (Str.ofString "first") ex) Q E s := o_getD S T h1 h2 (cls191 _) (f_first _) (by kernel_rfl) hv h
theorem pc_second {x dx : Addr} {k : Tk3} {n : Nat} {p f sd : Value} {ex : Bool} {Q : Value → Shared → Prop} (S : Sn c g m news s) (T : Tp w c.G0) (h1 : g x = some (instObj 191 dx)) (h2 : LMem dx (pcO w.params k p f sd n) news) (hv : handedIn sd = true) (h : ∀ s', Sn c g m news s' → Q sd s') :
    wpAny (model pw w) A (getAttr (.ref x) (Str.ofString "second") ex) Q E s := o_getD S T h1 h2 (cls191 _) (f_second _) (by kernel_rfl) hv h
end
theorem r_end1 {c : Cx} {g g₀ : Vis} {m : Loc} {s : Shared} {a : Addr} {o : Obj} {P : Value → Vis → Led → Prop} (S : Sn c g m [(a, o)] s) (e : Ente c g₀ [a]) (p : P .none g [(a, o)]) : RetQ c g₀ [a] P .next s := r_end S e (.cons .hd .nil) rfl p
theorem pcO_of (P : Params) (t1 t2 t3 : Tok) (p f : Value) : dictOf (putL (Str.ofString "second") (PyData.keyHash P (Str.ofString "second")) (.str (Str.ofString "second") t3) .none (putL (Str.ofString "first") (PyData.keyHash P (Str.ofString "first")) (.str (Str.ofString "first") t2) f  (putL (Str.ofString "plain") (PyData.keyHash P (Str.ofString "plain")) (.str (Str.ofString "plain") t1) p []))) (putN (Str.ofString "second") (putL (Str.ofString "first") (PyData.keyHash P (Str.ofString "first")) (.str (Str.ofString "first") t2) f (putL (Str.ofString "plain") (PyData.keyHash P (Str.ofString "plain")) (.str (Str.ofString "plain") t1) p []))  (putN (Str.ofString "first") (putL (Str.ofString "plain") (PyData.keyHash P (Str.ofString "plain")) (.str (Str.ofString "plain") t1) p []) (putN (Str.ofString "plain") [] 0))) = pcO P (t1, t2, t3) p f .none 3 := by kernel_rfl
noncomputable def OV (v : Value) : Prop := v = .none ∨ ∃ a, v = .ref a
theorem OV.handed {v : Value} (h : OV v) : handedIn v = true := by rcases h with rfl | ⟨a, rfl⟩ <;> rfl
noncomputable def PInit (w : World) (dx : Addr) (p f : Value) : Value → Vis → Led → Prop := fun v _ own' => v = .none ∧ ∃ k n, own' = [(dx, pcO w.params k p f .none n)]
set_option maxHeartbeats 1000000 in
theorem sp_pinit {w : World} {G0 : Heap} (T : Tp w G0) {d : Nat} {g : Vis} {x dx : Addr} {p f : Value} {args : List Value} (hb : ∀ s : Shared, (∀ b o', G0.get? b = some o' → s.heap.get? b = some o') → BindsTo s fd168 ⟨.ref x :: args, []⟩ [("self", .ref x), ("plain", p), ("first", f), ("second", .none)])
    (hx : g x = some (instObj 191 dx)) : CtC pw w G0 (d + 1) (.ref 168) (.ref x :: args) g [(dx, emptyDict)] (PInit w dx p f) := by
  refine entK (gls := []) (m := [("self", .loc (some (.ref x))), ("plain", .loc (some p)), ("first", .loc (some f)), ("second", .loc (some .none))]) (binds := [("self", .ref x), ("plain", p), ("first", f), ("second", .none)]) (rest := []) (T.K 168 o168 (by kernel_rfl)) (show o168.data = .func fd168 from rfl) T.nolim (codeRec_of T.K (by kernel_rfl)) rfl rfl rfl hb rfl (by kernel_rfl) (T.glb (by walk_at "gls")) ?_
  intro c s A r hG hgl he en S
  subst hG
  walk_at "go"
  exact r_end1 ‹Sn _ _ _ _ _› en ⟨rfl, _, _, congrArg (fun o => [(dx, o)]) (pcO_of w.params _ _ _ p f)⟩
section
variable {w : World} {A : Around} {E : Value → Shared → Prop} {s : Shared} {c : Cx} {g : Vis} {m : Loc} {news : Led} {d : Nat}
theorem k_piece1 {p : Value} {Q : Value → Shared → Prop} (S : Sn c g m news s) (r : Rm A (d + 2)) (T : Tp w c.G0)
    (h : ∀ x dx k n s' g', c.n₀ ≤ dx → VSub g g' → g' x = some (instObj 191 dx) → Sn c g' m ((dx, pcO w.params k p .none .none n) :: news) s' → Q (.ref x) s') : wpAny (model pw w) A (call (.ref 191) [p]) Q E s := by
  refine o_make (fI := 168) (P := fun _ dx => PInit w dx p .none) S r T (by kernel_rfl) (by kernel_rfl) (by kernel_rfl) (fun x dx g' _ hx => sp_pinit (d := d) T (fun s hk => BindsTo.of_defaults (T := 161) rfl (hk 161 o161 (T.K 161 o161 (by kernel_rfl))) rfl rfl rfl) hx) (fun _ _ _ _ _ q => q.1) ?_
  rintro x dx s' g' own' hn S' hv hx hw ⟨_, k, n, rfl⟩
  exact h x dx k n s' g' hn hv hx S'
theorem k_piece2 {p f : Value} {Q : Value → Shared → Prop} (S : Sn c g m news s) (r : Rm A (d + 2)) (T : Tp w c.G0)
    (h : ∀ x dx k n s' g', c.n₀ ≤ dx → VSub g g' → g' x = some (instObj 191 dx) → Sn c g' m ((dx, pcO w.params k p f .none n) :: news) s' → Q (.ref x) s') : wpAny (model pw w) A (call (.ref 191) [p, f]) Q E s := by
  refine o_make (fI := 168) (P := fun _ dx => PInit w dx p f) S r T (by kernel_rfl) (by kernel_rfl) (by kernel_rfl) (fun x dx g' _ hx => sp_pinit (d := d) T (fun s hk => BindsTo.of_defaults (T := 161) rfl (hk 161 o161 (T.K 161 o161 (by kernel_rfl))) rfl rfl rfl) hx) (fun _ _ _ _ _ q => q.1) ?_
  rintro x dx s' g' own' hn S' hv hx hw ⟨_, k, n, rfl⟩
  exact h x dx k n s' g' hn hv hx S'
end


-- F13
theorem LMem.pick {a : Addr} {o : Obj} {n : Led} (h : LMem a o n) : ∃ r, Pick [(a, o)] n r := by
  induction h with
  | @hd r => exact ⟨r, .cons .hd .nil⟩
  | @tl p _ _ ih =>
    obtain ⟨r, h⟩ := ih
    cases h with | cons h h2 => cases h2; exact ⟨p :: _, .cons (.tl h) .nil⟩
noncomputable abbrev notN (v : Value) : Bool := !(v == Value.none)
noncomputable def partsL (f s : Value) : List Value := [f, s].filter notN
noncomputable def labelsOf (p : List Int) : List Int := if isBr p then p.tail else []
section
variable {w : World} {A : Around} {E : Value → Shared → Prop} {s : Shared} {c : Cx} {g : Vis} {m : Loc} {news own rest : Led} {d : Nat}
/-- a call that leaves what it was handed as it was -/
theorem r_callU {f : Value} {args : List Value} {P : Value → Vis → Prop} {Q : Value → Shared → Prop} (S : Sn c g m news s) (r : Rm A d) (hp : Pick own news rest) (hf : Ct pw w c.G0 d f args g own fun v g' own' => own' = own ∧ P v g')
    (h : ∀ v s' g', Sn c g' m news s' → VSub g g' → P v g' → Q v s') : wpAny (model pw w) A (call f args) Q E s :=
  r_call S r hp hf fun v s' g' own' S' hv _ p => by obtain ⟨rfl, p⟩ := p; exact h v s' g' (S'.perm hp.perm.symm) hv p
theorem r_callU1 {a : Addr} {o : Obj} {f : Value} {args : List Value} {P : Value → Vis → Prop} {Q : Value → Shared → Prop} (S : Sn c g m news s) (r : Rm A d) (hp : LMem a o news) (hf : Ct pw w c.G0 d f args g [(a, o)] fun v g' own' => own' = [(a, o)] ∧ P v g')
    (h : ∀ v s' g', Sn c g' m news s' → VSub g g' → P v g' → Q v s') : wpAny (model pw w) A (call f args) Q E s := by
  obtain ⟨_, hp⟩ := hp.pick
  exact r_callU S r hp hf h
theorem s_from1A {a : Addr} {vs : List Value} {n k : Nat} {p p1 : Pos} {env : Env} {value : Expr} {Q : Value → Shared → Prop} (S : Sn c g m news s) (hg : s.heap.get? a = some { cls := .type "tuple", data := .seq (List.toArray vs) n }) (h1 : 1 ≤ vs.length) (hsz : vs.length ≤ sizeLine)
    (h : ∀ r s', c.n₀ ≤ r → Sn c g m ((r, tupO (vs.drop 1)) :: news) s' → Q (.ref r) s') :
    wpAny (model pw w) A (eval (.Slice (some (.Constant (.int 1) k p1)) none none p) env) (fun i s₂ => wpAny (model pw w) A (subscriptTail value (.Slice (some (.Constant (.int 1) k p1)) none none p) (.ref a) i) Q E s₂) E s := by
  refine wpAny_Slice (part_some (wpAny_Constant_int (part_none (part_none ?_))))
  have S1 : Sn c g m news { s with toks := s.toks + 1 } := S.tick
  have ht' : IsTup (s.heap.push { cls := .type "slice", data := .fields #[.int (1 : Nat) s.toks, .none, .none] }) a vs.toArray := ⟨_, Heap.get?_push_of_some _ hg, rfl, n, rfl⟩
  have S2 := S1.push (tk := s.toks + 1) (o := { cls := .type "slice", data := .fields #[.int (1 : Nat) s.toks, .none, .none] }) rfl
  refine tail_any (s := { s with heap := s.heap.push { cls := .type "slice", data := .fields #[.int (1 : Nat) s.toks, .none, .none] }, toks := s.toks + 1 }) ht'.typeIs slot_tuple_getitem.lookup (getItem_tuple_from ht' (Heap.IsSliceOf.new ..) (Nat.le_refl _) (by simpa using h1) ?_ (by simpa using hsz)) (by with_unfolding_all rfl)
  have S3 := S2.push (tk := s.toks + 1) (o := tupO (vs.drop 1)) rfl
  have := h _ _ S2.sz (S3.drop (news' := (_, tupO (vs.drop 1)) :: news) ((List.sublist_cons_self _ _).cons_cons _))
  simpa using this
theorem pm_parts {x dx : Addr} {k : Tk3} {n : Nat} {p f sd : Value} {pl : Sem Bool} {Q : Value × List Value → Shared → Prop} (S : Sn c g m news s) (T : Tp w c.G0) (h1 : g x = some (instObj 191 dx)) (h2 : LMem dx (pcO w.params k p f sd n) news) (h : Q (.ref 181, [.ref x]) s) :
    wpAny (model pw w) A (getMethod (.ref x) (Str.ofString "parts") pl) Q E s := o_methD S T h1 h2 (cls191 _) (by kernel_rfl) (by kernel_rfl) (by kernel_rfl) h
theorem pm_labels {x dx : Addr} {k : Tk3} {n : Nat} {p f sd : Value} {pl : Sem Bool} {Q : Value × List Value → Shared → Prop} (S : Sn c g m news s) (T : Tp w c.G0) (h1 : g x = some (instObj 191 dx)) (h2 : LMem dx (pcO w.params k p f sd n) news) (h : Q (.ref 188, [.ref x]) s) :
    wpAny (model pw w) A (getMethod (.ref x) (Str.ofString "labels") pl) Q E s := o_methD S T h1 h2 (cls191 _) (by kernel_rfl) (by kernel_rfl) (by kernel_rfl) h
end
theorem sp_code {w : World} {G0 : Heap} (T : Tp w G0) {d : Nat} {g : Vis} {x dx pa : Addr} {k : Tk3} {n : Nat} {f sd : Value} {c0 : Int} {l : List Int} (hx : g x = some (instObj 191 dx)) (hr : Rd g (.ref pa) (.tuple (iis (c0 :: l)))) :
    CtC pw w G0 (d + 1) (.ref 175) [.ref x] g [(dx, pcO w.params k (.ref pa) f sd n)] (fun v g' own' => g' = g ∧ own' = [(dx, pcO w.params k (.ref pa) f sd n)] ∧ ∃ t, v = .int c0 t) := by
  refine entK (gls := []) (m := [("self", .loc (some (.ref x)))]) (binds := [("self", .ref x)]) (rest := []) (T.K 175 o175 (by kernel_rfl)) (show o175.data = .func fd175 from rfl) T.nolim (codeRec_of T.K (by kernel_rfl)) rfl rfl rfl (fun _ _ => BindsTo.of_eq rfl) rfl (by kernel_rfl) (T.glb (by walk_at "gls")) ?_
  intro c s A r hG hgl he en S
  subst hG
  walk_at "go"
  with_reducible refine s_tup0 ‹Sn _ _ _ _ _› hr ?_ (by with_unfolding_all rfl); intro t'
  exact r_leave ‹Sn _ _ _ _ _› en (.cons .hd .nil) rfl ⟨rfl, rfl, _, rfl⟩
section
variable {w : World} {A : Around} {E : Value → Shared → Prop} {s : Shared} {c : Cx} {g : Vis} {m : Loc} {news : Led} {d : Nat}
theorem pc_code {x dx pa : Addr} {k : Tk3} {n : Nat} {f sd : Value} {ex : Bool} {c0 : Int} {l : List Int} {Q : Value → Shared → Prop} (S : Sn c g m news s) (T : Tp w c.G0) (r : Rm A (d + 2)) (h1 : g x = some (instObj 191 dx)) (h2 : LMem dx (pcO w.params k (.ref pa) f sd n) news) (hr : Rd g (.ref pa) (.tuple (iis (c0 :: l))))
    (h : ∀ t s', Sn c g m news s' → Q (.int c0 t) s') : wpAny (model pw w) A (getAttr (.ref x) (Str.ofString "code") ex) Q E s := by
  obtain ⟨_, hp⟩ := h2.pick
  refine o_prop (p := 176) (fget := 175) (rs := [.none, .none, .none, .str (Str.ofString "code") 501, .bool false]) S r T (S.see h1) (S.at h2) ((clsB_of (cls191 _)).2.2.2 _) (clsB_of (cls191 _)).2.2.1 (by kernel_rfl) (by kernel_rfl) (by kernel_rfl) (by kernel_rfl) hp (sp_code (d := d) T h1 hr) ?_
  rintro v s' g' own' S' _ _ ⟨rfl, rfl, t, rfl⟩
  exact handed_on rfl (h t s' (S'.perm hp.perm.symm))
end
set_option maxHeartbeats 1000000 in
theorem sp_parts {w : World} {G0 : Heap} (T : Tp w G0) {d : Nat} {g : Vis} {x dx : Addr} {k : Tk3} {n : Nat} {p f sd : Value} (hx : g x = some (instObj 191 dx)) (hf : OV f) (hs : OV sd) :
    Ct pw w G0 (d + 1) (.ref 181) [.ref x] g [(dx, pcO w.params k p f sd n)] (fun v g' own' => own' = [(dx, pcO w.params k p f sd n)] ∧ ∃ D k, v = .ref D ∧ g' D = some (lstO (partsL f sd) k)) := by
  refine ent (gls := []) (m := [("self", .loc (some (.ref x)))]) (binds := [("self", .ref x)]) (rest := []) (T.K 181 o181 (by kernel_rfl)) (show o181.data = .func fd181 from rfl) T.nolim (codeRec_of T.K (by kernel_rfl)) rfl rfl rfl (fun _ _ => BindsTo.of_eq rfl) rfl (by kernel_rfl) (T.glb (by walk_at "gls")) ?_
  intro c s A r hG hgl he en S
  subst hG
  obtain ⟨L, he⟩ := he
  walk_at "go"
  with_reducible refine e_comp (cl := []) (by rw [he]; with_unfolding_all rfl) (by with_unfolding_all rfl) (by kernel_rfl) ?_ (by intro _; with_unfolding_all rfl)
  walk_at "go"
  with_reducible refine r_newT ‹Sn _ _ _ _ _› ?_ (by walk_at "sz"); intro ta s1 ha S1
  refine Sn.lockK S1 (by walk_at "led") ha fun g1 hv1 hg1 S1 => ?_
  with_reducible refine iter_tup (vs := [f, sd]) S1 hg1 ?_; intro I o s2 S2 hI
  refine comp_itr (own := []) (mc0 := [("part", .loc none)]) (gls := []) itr_tup (fun mc => ∃ u, mc = ([("part", .loc u)] : Loc)) (fun i g own vs => own = [] ∧ vs = ([f, sd].take i).filter notN ∧ i ≤ 2) he ?hok ?gb ?sl ⟨_, rfl⟩ r.hd .name (.inl rfl) S2 (by walk_at "led") hI ⟨rfl, rfl, Nat.zero_le _⟩ ?len ?step ?fin
  case hok => kernel_rfl
  case gb => exact T.glb (by walk_at "gls")
  case sl => exact .loc (by kernel_rfl) (by kernel_rfl) .nil
  case len =>
    rintro i g own vs ⟨_, rfl, hi⟩
    have := List.length_filter_le notN ([f, sd].take i)
    rw [List.length_take] at this
    show _ < 2 ^ 24; omega
  case step =>
    intro c' C D i v g0 g2 mc oi own' vs k' s3 E' he' hgl' hG' hi2 hv2 hP hT hQ21 hw hQ23 S'
    refine hide5 v mc oi own' vs fun XX hXX => ?_
    obtain ⟨rfl, rfl, hi3⟩ := hQ21
    obtain ⟨u, rfl⟩ := hQ23
    refine hXX _ _ _ _ _ ?_
    clear hXX
    walk_at "go"
    have hi4 : i + 1 ≤ 2 := hi2
    cases hn : (!v == Value.none) with
    | true =>
      walk_at "go"
      refine comp_next (g' := g2) (VSub.refl _) ⟨_, rfl⟩ ⟨rfl, ?_, hi4⟩ rfl (by assumption)
      rw [take_succ_get hP, List.filter_append, List.filter_cons_of_pos (p := notN) hn]; rfl
    | false =>
      refine comp_next (g' := g2) (VSub.refl _) ⟨_, rfl⟩ ⟨rfl, ?_, hi4⟩ rfl (by assumption)
      rw [take_succ_get hP, List.filter_append, List.filter_cons_of_neg (p := notN) (by simp [notN, hn])]; simp
  case fin =>
    intro D g2 own2 vs2 k2 s3 hD2 hv2 hQ8 hw2 S3
    refine hide2 own2 vs2 fun XX hXX => ?_
    obtain ⟨rfl, rfl, hi3⟩ := hQ8
    refine Sn.lockK S3 (by walk_at "led") hD2 fun g3 hv3 hg3 S4 => ?_
    refine hXX _ _ ?_
    clear hXX
    exact r_leave S4 en (.cons (by walk_at "led") .nil) rfl ⟨rfl, _, _, rfl, hg3⟩
theorem sp_labels {w : World} {G0 : Heap} (T : Tp w G0) {d : Nat} {g : Vis} {x dx pa : Addr} {k : Tk3} {n : Nat} {f sd : Value} {c0 : Int} {l : List Int} (hx : g x = some (instObj 191 dx)) (hr : Rd g (.ref pa) (.tuple (iis (c0 :: l)))) (hl : l.length ≤ 20) :
    Ct pw w G0 (d + 3) (.ref 188) [.ref x] g [(dx, pcO w.params k (.ref pa) f sd n)] (fun v g' own' => own' = [(dx, pcO w.params k (.ref pa) f sd n)] ∧ ∃ a, v = .ref a ∧ Rd g' v (.tuple (iis (labelsOf (c0 :: l))))) := by
  refine ent (gls := [("BR", .int 12 224), ("BR_IF", .int 13 226), ("BR_TABLE", .int 14 228)]) (m := [("self", .loc (some (.ref x)))]) (binds := [("self", .ref x)]) (rest := []) (T.K 188 o188 (by kernel_rfl)) (show o188.data = .func fd188 from rfl) T.nolim (codeRec_of T.K (by kernel_rfl)) rfl rfl rfl (fun _ _ => BindsTo.of_eq rfl) rfl (by kernel_rfl) (T.glb (by walk_at "gls")) ?_
  intro c s A r hG hgl he en S
  subst hG
  walk_at "go"
  with_reducible refine pc_code ‹Sn _ _ _ _ _› T (r.le (Nat.le_refl _)) hx .hd hr ?_; intro t0 s0 S0
  walk_at "go"
  with_reducible refine r_newTD ‹Sn _ _ _ _ _› (xs := iis [12, 13, 14]) (.cons (.int _ _) (.cons (.int _ _) (.cons (.int _ _) .nil))) ?_ (by walk_at "sz"); intro tb s1 g1 hv1 hr1 S1
  with_reducible refine c_inT ‹Sn _ _ _ _ _› r hr1 ?_
  walk_at "go"
  have hb : isBr (c0 :: l) = decide (c0 ∈ ([12, 13, 14] : List Int)) := by unfold isBr; simp [Bool.beq_eq_decide_eq, Bool.or_assoc]
  with_reducible refine i_dec (fun q1 => ?_) (fun q1 => ?_)
  · have hx1 := hv1 _ _ hx
    walk_at "go"
    obtain ⟨_, vs, n0, e0, hgp, hrp⟩ := (hr.up hv1).tup_inv
    cases e0
    have hlen := hrp.length
    simp only [List.length_map, List.length_cons] at hlen
    with_reducible refine s_from1A ‹Sn _ _ _ _ _› (Sn.see ‹Sn _ _ _ _ _› hgp) (by omega) (by simp only [sizeLine]; omega) ?_; intro ta s2 ha S2
    refine Sn.lockK S2 (by walk_at "led") ha fun g2 hv2 hg2 S2 => ?_
    refine r_leave S2 en (.cons .hd .nil) rfl ⟨rfl, _, rfl, ?_⟩
    have e : labelsOf (c0 :: l) = l := by unfold labelsOf; rw [hb, decide_eq_true q1]; rfl
    rw [e]
    have := hrp.drop 1
    exact .tup hg2 (this.up hv2)
  · walk_at "go"
    with_reducible refine r_newTD ‹Sn _ _ _ _ _› (xs := iis []) .nil ?_ (by walk_at "sz"); intro tb2 s2 g2 hv2 hr2 S2
    refine r_leave S2 en (.cons .hd .nil) rfl ⟨rfl, _, rfl, ?_⟩
    have e : labelsOf (c0 :: l) = [] := by unfold labelsOf; rw [hb, decide_eq_false q1]; rfl
    rw [e]; exact hr2


-- F14a
structure OFr where
  p : List Int
  done : List Nd
  fst : Option (List Nd)
noncomputable def closeN (p : List Int) (cur : List Nd) : Option (List Nd) → Nd
  | none => .one p cur
  | some l => .two p l cur
noncomputable abbrev MSt := List Nd × List OFr
noncomputable def stepM (st : MSt) (p : List Int) : Option MSt :=
  if p.headD 0 ∈ ([2, 3, 4] : List Int) then some ([], ⟨p, st.1, none⟩ :: st.2)
  else if p.headD 0 = 5 then (match st.2 with | ⟨q, d, none⟩ :: r => some ([], ⟨q, d, some st.1⟩ :: r) | _ => none)
  else if p.headD 0 = 11 then (match st.2 with | ⟨q, d, f⟩ :: r => some (d ++ [closeN q st.1 f], r) | _ => none)
  else some (st.1 ++ [.leaf p], st.2)
noncomputable def runM : List (List Int) → MSt → Option MSt
  | [], st => some st
  | p :: r, st => (stepM st p).bind (runM r)
theorem runM_app : ∀ (a b : List (List Int)) (st : MSt), runM (a ++ b) st = (runM a st).bind (runM b)
  | [], b, st => rfl
  | p :: r, b, st => by
    show (stepM st p).bind (runM (r ++ b)) = ((stepM st p).bind (runM r)).bind (runM b)
    cases stepM st p with
    | none => rfl
    | some y => exact runM_app r b y
noncomputable def ssz : List OFr → Nat
  | [] => 0
  | f :: r => f.done.length + 1 + ssz r
theorem stepM_sz {st st' : MSt} {p : List Int} (h : stepM st p = some st') : st'.1.length + ssz st'.2 ≤ st.1.length + ssz st.2 + 1 := by
  unfold stepM at h
  split at h
  · cases h; simp [ssz]; lia
  · split at h
    · split at h
      · rename_i e; cases h; simp [e, ssz]; lia
      · cases h
    · split at h
      · split at h
        · rename_i e; cases h; simp [e, ssz]; lia
        · cases h
      · cases h; simp; lia
theorem runM_sz : ∀ (a : List (List Int)) {st st' : MSt}, runM a st = some st' → st'.1.length + ssz st'.2 ≤ st.1.length + ssz st.2 + a.length
  | [], st, st', h => by cases h; simp
  | p :: r, st, st', h => by
    obtain ⟨y, h1, h2⟩ := Option.bind_eq_some_iff.mp (show (stepM st p).bind (runM r) = some st' from h)
    have a1 := stepM_sz h1
    have a2 := runM_sz r h2
    simp only [List.length_cons]; lia
theorem stk_le : ∀ l : List OFr, l.length ≤ ssz l
  | [] => Nat.le_refl _
  | f :: r => by have := stk_le r; simp only [List.length_cons, ssz]; lia
theorem stepM_open {st : MSt} {c0 : Int} {l : List Int} (h : c0 ∈ ([2, 3, 4] : List Int)) : stepM st (c0 :: l) = some ([], ⟨c0 :: l, st.1, none⟩ :: st.2) := if_pos h
theorem stepM_5 {cur : List Nd} {stk : List OFr} {l : List Int} {st' : MSt} (h : stepM (cur, stk) (5 :: l) = some st') : ∃ q d r, stk = ⟨q, d, none⟩ :: r ∧ st' = ([], ⟨q, d, some cur⟩ :: r) := by
  unfold stepM at h
  split at h
  · rename_i q; exact absurd (show (5 : Int) ∈ ([2, 3, 4] : List Int) from q) (by decide)
  split at h
  · dsimp only at h
    split at h
    · cases h; exact ⟨_, _, _, rfl, rfl⟩
    · cases h
  · rename_i q; exact absurd rfl q
theorem stepM_11 {cur : List Nd} {stk : List OFr} {l : List Int} {st' : MSt} (h : stepM (cur, stk) (11 :: l) = some st') : ∃ q d f r, stk = ⟨q, d, f⟩ :: r ∧ st' = (d ++ [closeN q cur f], r) := by
  unfold stepM at h
  split at h
  · rename_i q; exact absurd (show (11 : Int) ∈ ([2, 3, 4] : List Int) from q) (by decide)
  split at h
  · rename_i q; exact absurd (show (11 : Int) = 5 from q) (by decide)
  split at h
  · dsimp only at h
    split at h
    · cases h; exact ⟨_, _, _, _, rfl, rfl⟩
    · cases h
  · rename_i q; exact absurd rfl q
theorem stepM_leaf {st : MSt} {c0 : Int} {l : List Int} (h1 : c0 ∉ ([2, 3, 4] : List Int)) (h2 : c0 ≠ 5) (h3 : c0 ≠ 11) : stepM st (c0 :: l) = some (st.1 ++ [.leaf (c0 :: l)], st.2) := (if_neg h1).trans ((if_neg h2).trans (if_neg h3))
theorem leaf_head {nf : Int} {p : List Int} (h : LeafOk nf p) : p.headD 0 ∉ ([2, 3, 4] : List Int) ∧ p.headD 0 ≠ 5 ∧ p.headD 0 ≠ 11 := by
  have key : ∀ c : Int, (c < 2 ∨ 11 < c) → ∀ l : List Int, (c :: l).headD 0 ∉ ([2, 3, 4] : List Int) ∧ (c :: l).headD 0 ≠ 5 ∧ (c :: l).headD 0 ≠ 11 := fun c h l => by
    have n : ∀ x : Int, 2 ≤ x → x ≤ 11 → c ≠ x := fun x h1 h2 e => h.elim (fun h => Int.not_lt.mpr h1 (e ▸ h)) fun h => Int.not_lt.mpr h2 (e ▸ h)
    refine ⟨fun m => ?_, n 5 (by decide) (by decide), n 11 (by decide) (by decide)⟩
    rcases List.mem_cons.mp m with m | m
    · exact n 2 (by decide) (by decide) m
    rcases List.mem_cons.mp m with m | m
    · exact n 3 (by decide) (by decide) m
    exact n 4 (by decide) (by decide) (List.mem_singleton.mp m)
  rcases h with ⟨l, _, rfl | rfl⟩ | ⟨ls, rfl, _⟩ | ⟨f, rfl, _⟩ | ⟨a, b, rfl, _⟩ | rfl | rfl | rfl | rfl | ⟨k, f, t, ta, pu, m, c, ls, _, hs, h1, h2, rfl, _⟩
  all_goals first | exact key _ (by decide) _ | skip
  have : ∀ l ∈ spansL, l.getD 1 0 < 2 ∨ 11 < l.getD 0 0 := by decide
  have := this _ (List.mem_of_getElem? hs)
  simp only [List.getD_cons_zero, List.getD_cons_succ] at this
  exact key _ (this.imp (Int.lt_of_le_of_lt h2) fun h => Int.lt_of_lt_of_le h h1) _
-- the machine builds the tree
mutual
theorem runM_node {nf : Int} : ∀ (n : Nd) (d : Nat) (st : MSt), NodeOk nf d n → runM (flatN n) st = some (st.1 ++ [n], st.2)
  | .leaf p, d, st, h => by
    have h' : LeafOk nf p := by unfold NodeOk at h; exact h
    obtain ⟨h1, h2, h3⟩ := leaf_head h'
    show (stepM st p).bind (runM []) = _
    unfold stepM
    rw [if_neg h1, if_neg h2, if_neg h3]; rfl
  | .one p f, 0, st, h => by unfold NodeOk at h; exact h.elim
  | .one p f, d + 1, st, h => by
    unfold NodeOk at h
    obtain ⟨⟨b, a, rfl, hb, _⟩, ht⟩ := h
    have e1 : stepM st [b, a] = some ([], ⟨[b, a], st.1, none⟩ :: st.2) := by unfold stepM; rw [if_pos (by simpa using hb)]
    show (stepM st [b, a]).bind (runM (flatT f ++ [[11]])) = _
    rw [e1, Option.bind_some, runM_app, runM_tr f d _ ht]; rfl
  | .two p f s, 0, st, h => by unfold NodeOk at h; exact h.elim
  | .two p f s, d + 1, st, h => by
    unfold NodeOk at h
    obtain ⟨⟨a, rfl, _⟩, ht, hs⟩ := h
    show (some (([] : List Nd), (⟨[4, a], st.1, none⟩ : OFr) :: st.2)).bind (runM (flatT f ++ ([5] :: flatT s) ++ [[11]])) = _
    rw [Option.bind_some, runM_app, runM_app, runM_tr f d _ ht, Option.bind_some]
    show ((some (([] : List Nd), (⟨[4, a], st.1, some ([] ++ f)⟩ : OFr) :: st.2)).bind (runM (flatT s))).bind (runM [[11]]) = _
    rw [Option.bind_some, runM_tr s d _ hs]; rfl
theorem runM_tr {nf : Int} : ∀ (t : List Nd) (d : Nat) (st : MSt), TreeOk nf d t → runM (flatT t) st = some (st.1 ++ t, st.2)
  | [], d, st, h => by simp [flatT, runM]
  | n :: r, d, st, h => by
    unfold TreeOk at h
    show runM (flatN n ++ flatT r) st = _
    rw [runM_app, runM_node n d st h.1, Option.bind_some, runM_tr r d _ h.2]; simp
end
-- the pieces that stand for a tree: the lists in what is seen, the dicts in the ledger
mutual
inductive PN (P : Params) (g : Vis) : Value → Nd → Led → Prop
  | leaf {x dx k n pa p} : g x = some (instObj 191 dx) → Rd g (.ref pa) (.tuple (iis p)) → PN P g (.ref x) (.leaf p) [(dx, pcO P k (.ref pa) .none .none n)]
  | one {x dx k n pa p fa fv nf f D} : g x = some (instObj 191 dx) → Rd g (.ref pa) (.tuple (iis p)) → g fa = some (lstO fv nf) → PL P g fv f D → PN P g (.ref x) (.one p f) ((dx, pcO P k (.ref pa) (.ref fa) .none n) :: D)
  | two {x dx k n pa p fa fv nf f D sa sv ns sn D2} : g x = some (instObj 191 dx) → Rd g (.ref pa) (.tuple (iis p)) → g fa = some (lstO fv nf) → PL P g fv f D → g sa = some (lstO sv ns) → PL P g sv sn D2 →
      PN P g (.ref x) (.two p f sn) ((dx, pcO P k (.ref pa) (.ref fa) (.ref sa) n) :: (D ++ D2))
inductive PL (P : Params) (g : Vis) : List Value → List Nd → Led → Prop
  | nil : PL P g [] [] []
  | cons {v nd D vs ts D2} : PN P g v nd D → PL P g vs ts D2 → PL P g (v :: vs) (nd :: ts) (D ++ D2)
end
theorem PN.up {P : Params} {g g' : Vis} (h : VSub g g') {v : Value} {n : Nd} {D : Led} (r : PN P g v n D) : PN P g' v n D :=
  PN.rec (motive_1 := fun v n D _ => PN P g' v n D) (motive_2 := fun vs t D _ => PL P g' vs t D) (fun a b => .leaf (h _ _ a) (b.up h)) (fun a b c _ d => .one (h _ _ a) (b.up h) (h _ _ c) d)
    (fun a b c _ e _ d f => .two (h _ _ a) (b.up h) (h _ _ c) d (h _ _ e) f) .nil (fun _ _ a b => .cons a b) r
/-- induction on the list alone -/
theorem PL.ind {P : Params} {g : Vis} {M : List Value → List Nd → Led → Prop} (n : M [] [] []) (c : ∀ {v nd D vs ts D2}, PN P g v nd D → PL P g vs ts D2 → M vs ts D2 → M (v :: vs) (nd :: ts) (D ++ D2)) {vs : List Value} {t : List Nd} {D : Led} (r : PL P g vs t D) : M vs t D :=
  PL.rec (motive_1 := fun _ _ _ _ => True) (motive_2 := fun vs t D _ => M vs t D) (fun _ _ => trivial) (fun _ _ _ _ _ => trivial) (fun _ _ _ _ _ _ _ _ => trivial) n (fun a b _ m => c a b m) r
theorem PL.up {P : Params} {g g' : Vis} (h : VSub g g') {vs : List Value} {t : List Nd} {D : Led} (r : PL P g vs t D) : PL P g' vs t D := r.ind (M := fun vs t D => PL P g' vs t D) .nil fun a _ m => .cons (a.up h) m
theorem PL.app {P : Params} {g : Vis} {vs : List Value} {t : List Nd} {D : Led} {ws : List Value} {u : List Nd} {D2 : Led} (r : PL P g vs t D) (r2 : PL P g ws u D2) : PL P g (vs ++ ws) (t ++ u) (D ++ D2) :=
  r.ind (M := fun vs t D => PL P g (vs ++ ws) (t ++ u) (D ++ D2)) r2 fun {v nd D' vs ts D''} a _ m => List.append_assoc D' D'' D2 ▸ .cons a m
theorem PL.length {P : Params} {g : Vis} {vs : List Value} {t : List Nd} {D : Led} (r : PL P g vs t D) : vs.length = t.length := r.ind (M := fun vs t _ => vs.length = t.length) rfl fun _ _ m => congrArg (· + 1) m
inductive SK (P : Params) (n₀ : Nat) (g : Vis) : Addr → List OFr → List Value → Led → Prop
  | nil {H} : SK P n₀ g H [] [] []
  | one {H HO x dx t pa k n hvd nO p done stk tups Dd LS} : n₀ ≤ HO → g t = some (tupO [.ref x, .ref HO]) → g x = some (instObj 191 dx) → Rd g (.ref pa) (.tuple (iis p)) → PL P g hvd done Dd → SK P n₀ g HO stk tups LS →
      SK P n₀ g H (⟨p, done, none⟩ :: stk) (tups ++ [.ref t]) ((dx, pcO P k (.ref pa) (.ref H) .none n) :: (HO, lstO (hvd ++ [.ref x]) nO) :: (Dd ++ LS))
  | two {H HO x dx t pa k n hvd nO p done stk tups Dd LS FA fv nF f D1} : n₀ ≤ HO → n₀ ≤ FA → g t = some (tupO [.ref x, .ref HO]) → g x = some (instObj 191 dx) → Rd g (.ref pa) (.tuple (iis p)) → PL P g hvd done Dd → PL P g fv f D1 → SK P n₀ g HO stk tups LS →
      SK P n₀ g H (⟨p, done, some f⟩ :: stk) (tups ++ [.ref t]) ((dx, pcO P k (.ref pa) (.ref FA) (.ref H) n) :: (HO, lstO (hvd ++ [.ref x]) nO) :: (FA, lstO fv nF) :: (D1 ++ (Dd ++ LS)))
theorem SK.up {P : Params} {n₀ : Nat} {g g' : Vis} (h : VSub g g') {H : Addr} {stk : List OFr} {tups : List Value} {LS : Led} (r : SK P n₀ g H stk tups LS) : SK P n₀ g' H stk tups LS :=
  SK.rec (motive := fun H stk tups LS _ => SK P n₀ g' H stk tups LS) .nil (fun a b c d e _ f => .one a (h _ _ b) (h _ _ c) (d.up h) (e.up h) f) (fun a a' b c d e e' _ f => .two a a' (h _ _ b) (h _ _ c) (d.up h) (e.up h) (e'.up h) f) r
theorem len_snoc {α β : Type} {l : List α} {r : List β} {a : α} {b : β} (h : l.length = r.length) : (l ++ [a]).length = (b :: r).length := List.length_append.trans (congrArg (· + 1) h)
theorem SK.len {P : Params} {n₀ : Nat} {g : Vis} {H : Addr} {stk : List OFr} {tups : List Value} {LS : Led} (r : SK P n₀ g H stk tups LS) : tups.length = stk.length :=
  SK.rec (motive := fun _ stk tups _ _ => tups.length = stk.length) rfl (fun _ _ _ _ _ _ f => len_snoc f) (fun _ _ _ _ _ _ _ _ f => len_snoc f) r
theorem perm_leaf {α : Type} (a : α) (D LS : List α) : (a :: (D ++ LS)).Perm ((D ++ ([a] ++ [])) ++ LS) := by
  rw [List.append_nil, List.append_assoc]; exact List.perm_middle.symm
theorem perm_one {α : Type} (a : α) (D Dd LS : List α) : (a :: (D ++ (Dd ++ LS))).Perm ((Dd ++ ((a :: D) ++ [])) ++ LS) := by
  rw [List.append_nil, List.append_assoc]
  exact (List.Perm.cons a (List.perm_append_comm_assoc D Dd LS)).trans List.perm_middle.symm
theorem perm_two {α : Type} (a : α) (D D1 Dd LS : List α) : (a :: (D ++ (D1 ++ (Dd ++ LS)))).Perm ((Dd ++ ((a :: (D1 ++ D)) ++ [])) ++ LS) := by
  refine List.Perm.trans (List.Perm.cons a ?_) (perm_one a (D1 ++ D) Dd LS)
  rw [List.append_assoc]
  exact List.perm_append_comm_assoc D D1 (Dd ++ LS)
section
variable {w : World} {A : Around} {E : Value → Shared → Prop} {s : Shared} {c : Cx} {g : Vis} {m : Loc} {news news' : Led}
theorem pcO_set2 (P : Params) (k : Tk3) (p f sd v : Value) (n : Nat) (t : Tok) : dictOf (putL (Str.ofString "second") (PyData.keyHash P (Str.ofString "second")) (.str (Str.ofString "second") t) v (pcE P k p f sd)) (putN (Str.ofString "second") (pcE P k p f sd) n) = pcO P k p f v n := by kernel_rfl
theorem pcO_setP (P : Params) (k : Tk3) (p f sd v : Value) (n : Nat) (t : Tok) : dictOf (putL (Str.ofString "plain") (PyData.keyHash P (Str.ofString "plain")) (.str (Str.ofString "plain") t) v (pcE P k p f sd)) (putN (Str.ofString "plain") (pcE P k p f sd) n) = pcO P k v f sd n := by kernel_rfl
theorem LUp.mem {a : Addr} {o o' : Obj} {n n' : Led} (h : LUp a o o' n n') : LMem a o n := by
  induction h with
  | hd => exact .hd
  | tl _ ih => exact .tl ih
theorem pc_set2 {x dx : Addr} {k : Tk3} {n : Nat} {p f sd v : Value} {Q : Unit → Shared → Prop} (S : Sn c g m news s) (T : Tp w c.G0) (h1 : g x = some (instObj 191 dx)) (u : LUp dx (pcO w.params k p f sd n) (pcO w.params k p f v n) news news') (h : ∀ s', Sn c g m news' s' → Q () s') :
    wpAny (model pw w) A (setAttr (.ref x) (Str.ofString "second") v) Q E s :=
  o_setD S T h1 u.mem (cls191 _) (f_second _) (by kernel_rfl) (Nat.le_of_ble_eq_true rfl) fun tk s' hS => h s' (hS _ (by rw [pcO_set2]; exact u))
theorem pc_setP {x dx : Addr} {k : Tk3} {n : Nat} {p f sd v : Value} {Q : Unit → Shared → Prop} (S : Sn c g m news s) (T : Tp w c.G0) (h1 : g x = some (instObj 191 dx)) (u : LUp dx (pcO w.params k p f sd n) (pcO w.params k v f sd n) news news') (h : ∀ s', Sn c g m news' s' → Q () s') :
    wpAny (model pw w) A (setAttr (.ref x) (Str.ofString "plain") v) Q E s :=
  o_setD S T h1 u.mem (cls191 _) (f_plain _) (by kernel_rfl) (Nat.le_of_ble_eq_true rfl) fun tk s' hS => h s' (hS _ (by rw [pcO_setP]; exact u))
theorem s_tup0V {a : Addr} {v : Value} {vs : List Value} {n : Nat} {t : Tok} {value slice : Expr} {ops : List Value} {Q : Value → Shared → Prop} (S : Sn c g m news s) (hg : g a = some { cls := .type "tuple", data := .seq (List.toArray (v :: vs)) n }) (h : Q v s)
    (hs : subscripted slice false (.ref a) (.int 0 t) = operate ops (getItem (.ref a) (.int 0 t))) : wpAny (model pw w) A (subscriptTail value slice (.ref a) (.int 0 t)) Q E s :=
  s_tup S hg (by decide) (by decide) (j := 0) (by unfold seqIndex?; simp) rfl h hs
/-- l[-1] -/
theorem s_last {l : Addr} {vs : List Value} {v : Value} {n : Nat} {t : Tok} {value slice : Expr} {ops : List Value} {Q : Value → Shared → Prop} (S : Sn c g m news s) (hm : LMem l (lstO (vs ++ [v]) n) news) (h : Q v s)
    (hs : subscripted slice false (.ref l) (.int (-1) t) = operate ops (getItem (.ref l) (.int (-1) t))) : wpAny (model pw w) A (subscriptTail value slice (.ref l) (.int (-1) t)) Q E s := by
  have hl : s.heap.IsList l (vs ++ [v]).toArray := ⟨_, S.at hm, rfl, n, rfl⟩
  refine tail_any hl.typeIs slot_list_getitem.lookup (wpAny_getItem_list_neg hl (by decide) (by simp; lia) (by decide) ?_ h) hs
  have e : ((-1 : Int) + ((vs ++ [v]).toArray.size : Int)).toNat = vs.length := by simp; lia
  rw [e]; simp
/-- l[:k] -/
theorem e_upto {a : Addr} {vs : List Value} {p : Pos} {e value : Expr} {Q : Value → Shared → Prop} (hsz : vs.length ≤ sizeLine)
    (h : wpAny (model pw w) A (eval e c.env) (fun u s₁ => ∃ g m news n, ∃ (k : Nat) (t : Tok), u = .int k t ∧ Sn c g m news s₁ ∧ s₁.heap.get? a = some (lstO vs n) ∧ k ≤ vs.length ∧ ∀ r s', c.n₀ ≤ r → Sn c g m ((r, lstO (vs.take k) 0) :: news) s' → Q (.ref r) s') E s) :
    wpAny (model pw w) A (eval (.Slice none (some e) none p) c.env) (fun i s₂ => wpAny (model pw w) A (subscriptTail value (.Slice none (some e) none p) (.ref a) i) Q E s₂) E s := by
  refine wpAny_Slice (part_none (part_some (wpAny_mono h (fun u s₁ q => ?_) fun _ _ e => e)))
  obtain ⟨g, m, news, n, k, t, rfl, S, hg, hk, q⟩ := q
  refine part_none ?_
  have hl : (s₁.heap.push { cls := .type "slice", data := .fields #[.none, .int (k : Nat) t, .none] }).IsList a vs.toArray := ⟨_, Heap.get?_push_of_some _ hg, rfl, n, rfl⟩
  have S2 := S.push (tk := s₁.toks) (o := { cls := .type "slice", data := .fields #[.none, .int (k : Nat) t, .none] }) rfl
  refine tail_any (s := { s₁ with heap := s₁.heap.push { cls := .type "slice", data := .fields #[.none, .int (k : Nat) t, .none] } }) hl.typeIs slot_list_getitem.lookup (wpAny_getItem_list_slice hl (Heap.IsSliceOf.new ..) .none (.int _ _) .none (by simp) ?_ (by simpa using hsz)) (by with_unfolding_all rfl)
  rw [slicePick_upto _ _ (by simpa using hk)]
  have S3 := S2.push (tk := s₁.toks) (o := lstO (vs.take k) 0) rfl
  have := q _ _ S2.sz (S3.drop (news' := (_, lstO (vs.take k) 0) :: news) ((List.sublist_cons_self _ _).cons_cons _))
  simpa using this
end


-- F14
noncomputable abbrev mPO (b H OA : Addr) (u1 u2 : Option Value) : Loc := [("body", .loc (some (.ref b))), ("here", .loc (some (.ref H))), ("opened", .loc (some (.ref OA))), ("plain", .loc u1), ("piece", .loc u2)]
inductive PInv (P : Params) (n₀ : Nat) (g₀ : Vis) (L : List (List Int)) (b : Addr) : Nat → Vis → Loc → Led → Prop
  | mk {i g H OA hv nH cur D tups nO stk LS u1 u2} : VSub g₀ g → n₀ ≤ H → runM (L.take i) ([], []) = some (cur, stk) → PL P g hv cur D → SK P n₀ g H stk tups LS → PInv P n₀ g₀ L b i g (mPO b H OA u1 u2) ((OA, lstO tups nO) :: (H, lstO hv nH) :: (D ++ LS))
theorem Sn.pick {c : Cx} {g : Vis} {m : Loc} {news own rest pk : Led} {s : Shared} (S : Sn c g m news s) (hp : Pick pk news (own ++ rest)) : Sn c g m (own ++ (pk ++ rest)) s :=
  S.perm (hp.perm.trans (List.perm_append_comm_assoc pk own rest))
noncomputable def PPieces (w : World) (t : List Nd) : Value → Vis → Led → Led → Prop := fun v g' own' nw => own' = [] ∧ ∃ H hv n, v = .ref H ∧ g' H = some (lstO hv n) ∧ PL w.params g' hv t nw
theorem bnd_t {a b s t i L : Nat} (h : a + b ≤ min i L) (h2 : s ≤ b) (h3 : t = s) (hL : L ≤ 4000) : t ≤ 4000 :=
  Nat.le_trans (h3 ▸ h2) (Nat.le_trans (Nat.le_trans (Nat.le_add_left b a) (Nat.le_trans h (Nat.min_le_right i L))) hL)
theorem bnd_h {a b t i L : Nat} (h : a + b ≤ min i L) (h3 : t = a) (hL : L ≤ 4000) : t ≤ 4000 :=
  Nat.le_trans (Nat.le_of_eq h3) (Nat.le_trans (Nat.le_trans (Nat.le_add_right a b) (Nat.le_trans h (Nat.min_le_right i L))) hL)
theorem le_snoc {α : Type} {l : List α} {a : α} : l.length ≤ (l ++ [a]).length := by rw [List.length_append]; exact Nat.le_add_right _ _
set_option maxHeartbeats 2000000 in
theorem sp_pieces {w : World} {G0 : Heap} (T : Tp w G0) {d : Nat} {g : Vis} {b : Addr} {L : List (List Int)} {e : List Int} {t : List Nd} (hne : ∀ p ∈ L, p ≠ []) (hL : L.length ≤ 4000) (hr : Rd g (.ref b) (.list (plsD (L ++ [e])))) (hrun : runM L ([], []) = some (t, [])) :
    CtN pw w G0 (d + 4) (.ref 202) [.ref b] g [] (PPieces w t) := by
  refine entN (gls := [("len", .builtin "len"), ("BLOCK", .int 2 214), ("LOOP", .int 3 216), ("IF", .int 4 218), ("ELSE", .int 5 220), ("END", .int 11 222), ("Piece", .ref 191)]) (m := [("body", .loc (some (.ref b))), ("here", .loc none), ("opened", .loc none), ("plain", .loc none), ("piece", .loc none)]) (binds := [("body", .ref b)]) (rest := ["here", "opened", "plain", "piece"]) (T.K 202 o202 (by kernel_rfl)) (show o202.data = .func fd202 from rfl) T.nolim (codeRec_of T.K (by kernel_rfl)) rfl rfl rfl (fun _ _ => BindsTo.of_eq rfl) rfl (by kernel_rfl) (T.glb (by walk_at "gls")) ?_
  intro c s A r hG hgl he en S
  subst hG
  obtain ⟨_, vs, n0, e0, hgb, hrb⟩ := id hr.lst_inv
  cases e0
  have hlen := hrb.length
  simp only [List.length_map, List.length_append, List.length_singleton] at hlen
  with_reducible refine x_tupS (ns := ["here", "opened"]) (by with_unfolding_all rfl) (by obtain ⟨_, he⟩ := he; rw [he]; with_unfolding_all rfl) (fun _ _ => ?_)
  walk_at "go"
  with_reducible refine r_newL ‹Sn _ _ _ _ _› ?_ (by walk_at "sz"); intro H0 _ hH0 S1
  walk_at "go"
  with_reducible refine r_newL ‹Sn _ _ _ _ _› ?_ (by walk_at "sz"); intro OA _ hOA S1
  walk_at "go"
  with_reducible refine r_newT ‹Sn _ _ _ _ _› ?_ (by walk_at "sz"); intro ta _ hta S2
  with_reducible refine u_tup ‹Sn _ _ _ _ _› r.hd (Sn.at ‹Sn _ _ _ _ _› (by walk_at "led")) (by with_unfolding_all rfl) ?_; intro s3 S3
  have S4 := S3.drop (List.sublist_cons_self _ _)
  clear S S1 S2 S3
  simp only [List.reverse_cons, List.reverse_nil, List.nil_append, List.cons_append]
  walk_at "go"
  refine e_upto (vs := vs) (by simp only [sizeLine]; walk_at "om") ?_
  walk_at "go"
  with_reducible refine r_lenLD ‹Sn _ _ _ _ _› hr (by simp only [List.length_map, List.length_append, List.length_singleton, sizeLine]; walk_at "om") ?_; intro t1 s5 S5
  walk_at "go"
  have hk : ((plsD (L ++ [e])).length : Int) - 1 = (L.length : Nat) := by simp
  rw [hk]
  refine ⟨_, _, _, n0, L.length, _, rfl, ‹Sn _ _ _ _ _›, Sn.see ‹Sn _ _ _ _ _› hgb, by walk_at "om", ?_⟩
  intro bl s6 hbl S6
  refine Sn.lockK S6 (by walk_at "led") hbl fun g1 hv1 hg1 S6 => ?_
  have hrt : RdAll g1 (vs.take L.length) (plsD L) := by have := (hrb.take L.length).up hv1; simpa using this
  walk_at "go"
  with_reducible refine iter_list S6 hg1 ?_; intro I o s7 S7 hI
  have hbll : (vs.take L.length).length = L.length := by rw [List.length_take]; exact Nat.min_eq_left (by walk_at "om")
  refine for_itr itr_list (PInv w.params c.n₀ g1 L b) r.hd .name (.inl rfl) S7 hI (.mk (D := []) (LS := []) (tups := []) (hv := []) (VSub.refl _) hH0 rfl .nil .nil) ?step ?fin
  case step =>
    rintro i v g2 g3 m own news s E' hi hv3 hP hT hI S
    cases hI with | @mk H OA hv nH cur D tups nO stk LS u1 u2 hvs hH hm hpl hsk =>
    obtain ⟨x, hx, hrx⟩ := (hrt.up (hvs.trans hv3)).get hP
    obtain ⟨p, hp, rfl⟩ := plsD_get hx
    obtain ⟨x, l, rfl⟩ : ∃ x l, p = x :: l := by
      cases p with
      | nil => exact absurd rfl (hne [] (List.mem_of_getElem? hp))
      | cons x l => exact ⟨x, l, rfl⟩
    obtain ⟨pa, rfl⟩ := hrx.tup_ref
    have hsz := runM_sz _ hm
    simp only [List.length_take, List.length_nil, ssz, Nat.zero_add] at hsz
    have hsl := stk_le stk
    have hcl := hpl.length
    have htl := hsk.len
    have hil : i < L.length := hbll ▸ hi
    have hbt : tups.length ≤ 4000 := bnd_t hsz hsl htl hL
    have hbh : hv.length ≤ 4000 := bnd_h hsz hcl hL
    obtain ⟨st', hst⟩ : ∃ st', stepM (cur, stk) (x :: l) = some st' := by
      rw [← List.take_append_drop (i + 1) L, runM_app, take_succ_get hp, runM_app, hm] at hrun
      obtain ⟨y, h1, _⟩ := Option.bind_eq_some_iff.mp hrun
      obtain ⟨z, h2, _⟩ := Option.bind_eq_some_iff.mp (show (stepM (cur, stk) (x :: l)).bind (runM []) = some y from h1)
      exact ⟨z, h2⟩
    have hm' : runM (L.take (i + 1)) ([], []) = some st' := by
      rw [take_succ_get hp, runM_app, hm]
      show (stepM (cur, stk) (x :: l)).bind (runM []) = _
      rw [hst]; rfl
    have hpl3 := hpl.up hv3
    have hsk3 := hsk.up hv3
    clear hpl hsk
    walk_at "go"
    with_reducible refine s_tup0 ‹Sn _ _ _ _ _› hrx ?_ (by with_unfolding_all rfl); intro t2
    walk_at "go"
    with_reducible refine r_newTD ‹Sn _ _ _ _ _› (xs := iis [2, 3, 4]) (.cons (.int _ _) (.cons (.int _ _) (.cons (.int _ _) .nil))) ?_ (by walk_at "sz"); intro tb s8 g4 hv4 hr4 S8
    with_reducible refine c_inT ‹Sn _ _ _ _ _› r hr4 ?_
    walk_at "go"
    with_reducible refine i_dec (fun q1 => ?_) (fun q1 => ?_)
    · obtain rfl : st' = _ := Option.some.inj (hst.symm.trans (stepM_open q1))
      walk_at "go"
      with_reducible refine r_newL ‹Sn _ _ _ _ _› ?_ (by walk_at "sz"); intro F s9 hF S9
      walk_at "go"
      with_reducible refine k_piece2 (d := 0) ‹Sn _ _ _ _ _› (r.le (by walk_at "le")) T ?_; intro xx dx k n s10 g5 hdx hv5 hx5 S10
      walk_at "go"
      with_reducible refine r_app ‹Sn _ _ _ _ _› (by walk_at "led") ?_ (Nat.le_trans hbh (by decide)); intro s11 S11
      walk_at "go"
      with_reducible refine r_newT ‹Sn _ _ _ _ _› ?_ (by walk_at "sz"); intro tt s12 htt S12
      refine Sn.lockK S12 (by walk_at "led") htt fun g6 hv6 hg6 S12 => ?_
      have hx6 := hv6 _ _ hx5
      walk_at "go"
      with_reducible refine r_app ‹Sn _ _ _ _ _› (by walk_at "led") ?_ (Nat.le_trans hbt (by decide)); intro s13 S13
      walk_at "go"
      have hv36 := (hv4.trans hv5).trans hv6
      refine loop_next (g' := g6) hv36 (.mk (cur := []) (D := []) ((hvs.trans hv3).trans hv36) hF hm' .nil (.one hH hg6 hx6 (hrx.up hv36) (hpl3.up hv36) (hsk3.up hv36))) (Sn.pick (pk := [(OA, _), (F, _), (dx, _), (H, _)]) (rest := D ++ LS) ‹Sn _ _ _ _ _› (by walk_at "led"))
    walk_at "go"
    with_reducible refine s_tup0 ‹Sn _ _ _ _ _› (hrx.up hv4) ?_ (by with_unfolding_all rfl); intro t3
    walk_at "go"
    have hx4 := hrx.up hv4
    have hpl4 := hpl3.up hv4
    have hsk4 := hsk3.up hv4
    with_reducible refine i_b (fun q2 => ?_) (fun q2 => ?_)
    · obtain rfl : x = 5 := by simpa using q2
      obtain ⟨q, dn, rr, rfl, rfl⟩ := stepM_5 hst
      cases hsk4 with | @one _ HO x0 dx t0 pa0 k n hvd nO _ _ _ tups2 Dd LS2 a1 a2 a3 a4 a5 a6 =>
      walk_at "go"
      with_reducible refine s_last ‹Sn _ _ _ _ _› (by walk_at "led") ?_ (by with_unfolding_all rfl)
      walk_at "go"
      with_reducible refine s_tup0V ‹Sn _ _ _ _ _› a2 ?_ (by with_unfolding_all rfl)
      walk_at "go"
      with_reducible refine r_newL ‹Sn _ _ _ _ _› ?_ (by walk_at "sz"); intro SA s9 hSA S9
      walk_at "go"
      refine loop_next (g' := g4) hv4 (.mk (cur := []) (D := []) ((hvs.trans hv3).trans hv4) hSA hm' .nil (.two a1 hH a2 a3 a4 a5 hpl4 a6)) (Sn.pick (pk := [(OA, _), (SA, _), (dx, _), (HO, _), (H, _)]) (rest := D ++ (Dd ++ LS2)) ‹Sn _ _ _ _ _› (by walk_at "led"))
    walk_at "go"
    with_reducible refine s_tup0 ‹Sn _ _ _ _ _› hx4 ?_ (by with_unfolding_all rfl); intro t4
    walk_at "go"
    with_reducible refine i_b (fun q3 => ?_) (fun q3 => ?_)
    · obtain rfl : x = 11 := by simpa using q3
      obtain ⟨q, dn, fo, rr, rfl, rfl⟩ := stepM_11 hst
      cases hsk4 with
      | @one _ HO x0 dx t0 pa0 k n hvd nO' _ _ _ tups2 Dd LS2 a1 a2 a3 a4 a5 a6 =>
        simp only [List.length_append, List.length_singleton] at htl
        walk_at "go"
        with_reducible refine r_pop ‹Sn _ _ _ _ _› (by walk_at "led") ?_ (Nat.lt_of_le_of_lt (Nat.le_trans le_snoc hbt) (by decide)); intro s9 S9
        refine a_tup ‹Sn _ _ _ _ _› r.hd (S9.see a2) (by with_unfolding_all rfl) (by with_unfolding_all rfl) ?_; intro s10 S10
        walk_at "go"
        refine Sn.lockK (a := H) ‹Sn _ _ _ _ _› (by walk_at "led") hH fun g5 hv5 hg5 S11 => ?_
        have S' : Sn c g5 _ (own ++ ((OA, lstO tups2 (nO + 1)) :: (HO, lstO (hvd ++ [.ref x0]) nO') :: (dx, _) :: (D ++ (Dd ++ LS2)))) _ := Sn.pick (pk := [(OA, _), (HO, _), (dx, _)]) (rest := D ++ (Dd ++ LS2)) S11 (by walk_at "led")
        exact loop_next (g' := g5) (hv4.trans hv5) (.mk (cur := dn ++ [.one q cur]) (nO := nO + 1) (nH := nO') ((hvs.trans hv3).trans (hv4.trans hv5)) a1 hm' ((a5.up hv5).app (.cons (.one (k := k) (n := n) (hv5 _ _ a3) (a4.up hv5) hg5 (hpl4.up hv5)) .nil)) (a6.up hv5)) (S'.perm (List.Perm.append_left own (.cons _ (.cons _ (perm_one _ D Dd LS2)))))
      | @two _ HO x0 dx t0 pa0 k n hvd nO' _ _ _ tups2 Dd LS2 FA fv nF f D1 a1 a1' a2 a3 a4 a5 a5' a6 =>
        simp only [List.length_append, List.length_singleton] at htl
        walk_at "go"
        with_reducible refine r_pop ‹Sn _ _ _ _ _› (by walk_at "led") ?_ (Nat.lt_of_le_of_lt (Nat.le_trans le_snoc hbt) (by decide)); intro s9 S9
        refine a_tup ‹Sn _ _ _ _ _› r.hd (S9.see a2) (by with_unfolding_all rfl) (by with_unfolding_all rfl) ?_; intro s10 S10
        walk_at "go"
        refine Sn.lockK (a := H) ‹Sn _ _ _ _ _› (by walk_at "led") hH fun g5 hv5 hg5 S11 => ?_
        refine Sn.lockK (a := FA) S11 (by walk_at "led") a1' fun g6 hv6 hg6 S12 => ?_
        have hv46 := (hv4.trans hv5).trans hv6
        have hv56 := hv5.trans hv6
        have S' : Sn c g6 _ (own ++ ((OA, lstO tups2 (nO + 1)) :: (HO, lstO (hvd ++ [.ref x0]) nO') :: (dx, _) :: (D ++ (D1 ++ (Dd ++ LS2))))) _ := Sn.pick (pk := [(OA, _), (HO, _), (dx, _)]) (rest := D ++ (D1 ++ (Dd ++ LS2))) S12 (by walk_at "led")
        exact loop_next (g' := g6) hv46 (.mk (cur := dn ++ [.two q f cur]) (nO := nO + 1) (nH := nO') ((hvs.trans hv3).trans hv46) a1 hm' ((a5.up hv56).app (.cons (.two (k := k) (n := n) (hv56 _ _ a3) (a4.up hv56) hg6 (a5'.up hv56) (hv6 _ _ hg5) (hpl4.up hv56)) .nil)) (a6.up hv56)) (S'.perm (List.Perm.append_left own (.cons _ (.cons _ (perm_two _ D D1 Dd LS2)))))
    · walk_at "go"
      with_reducible refine k_piece1 (d := 0) ‹Sn _ _ _ _ _› (r.le (by walk_at "le")) T ?_; intro xx dx k n s10 g5 hdx hv5 hx5 S10
      walk_at "go"
      with_reducible refine r_app ‹Sn _ _ _ _ _› (by walk_at "led") ?_ (Nat.le_trans hbh (by decide)); intro s11 S11
      walk_at "go"
      have hst2 := hst.symm.trans (stepM_leaf q1 (by simpa using q2) (by simpa using q3))
      obtain rfl : st' = _ := Option.some.inj hst2
      have hv35 := hv4.trans hv5
      have S' : Sn c g5 _ (own ++ ((OA, lstO tups nO) :: (H, lstO (hv ++ [.ref xx]) (nH + 1)) :: (dx, _) :: (D ++ LS))) _ := Sn.pick (pk := [(OA, lstO tups nO), (H, lstO (hv ++ [.ref xx]) (nH + 1)), (dx, _)]) (rest := D ++ LS) ‹Sn _ _ _ _ _› (by walk_at "led")
      exact loop_next (g' := g5) hv35 (.mk (cur := cur ++ [.leaf (x :: l)]) (nO := nO) (nH := nH + 1) ((hvs.trans hv3).trans hv35) hH hm' ((hpl4.up hv5).app (.cons (.leaf (k := k) (n := n) hx5 (hx4.up hv5)) .nil)) (hsk4.up hv5)) (S'.perm (List.Perm.append_left own (.cons _ (.cons _ (perm_leaf _ D LS)))))
  case fin =>
    rintro g2 m news s hI S
    cases hI with | @mk H OA hv nH cur D tups nO stk LS u1 u2 hvs hH hm hpl hsk =>
    rw [hbll, List.take_length, hrun] at hm
    cases hm
    cases hsk
    refine Sn.lockK S (a := H) (by walk_at "led") hH fun g3 hv3 hg3 S => ?_
    walk_at "go"
    exact r_leaveN ‹Sn _ _ _ _ _› en (own := []) (new := D) (rest := [(OA, lstO [] nO)]) (by rw [List.append_nil]; exact (List.perm_append_singleton _ D).symm) rfl ⟨rfl, H, hv, _, rfl, hg3, hpl.up hv3⟩


-- F15a
theorem Pick.self : ∀ (own rest : Led), Pick own (own ++ rest) rest
  | [], _ => .nil
  | (_, _) :: r, rest => .cons .hd (Pick.self r rest)
theorem perm_c {α : Type} {a b : List α} (h : ∀ [DecidableEq α] (x : α), a.count x = b.count x) : a.Perm b := by
  classical
  exact List.perm_iff_count.mpr fun x => h x
theorem PL.get {P : Params} {g : Vis} {hv : List Value} {t : List Nd} {D : Led} {i : Nat} {n : Nd} (H : PL P g hv t D) : t[i]? = some n → ∃ v Da Di Db, hv[i]? = some v ∧ PN P g v n Di ∧ D = Da ++ (Di ++ Db) :=
  H.ind (M := fun hv t D => ∀ i : Nat, t[i]? = some n → ∃ v Da Di Db, hv[i]? = some v ∧ PN P g v n Di ∧ D = Da ++ (Di ++ Db)) (fun _ e => nomatch e)
    (fun {v _ D _ _ D2} a _ m i => i.casesOn (fun e => ⟨v, [], D, D2, rfl, Option.some.inj e ▸ a, rfl⟩) fun i e => (m i e).elim fun v h => h.elim fun Da h => h.elim fun Di h => h.elim fun Db h => ⟨v, D ++ Da, Di, Db, h.1, h.2.1, h.2.2 ▸ (List.append_assoc ..).symm⟩) i
theorem cnt_at {t : List Nd} {i : Nat} {n : Nd} (h : t[i]? = some n) : cntT (t.take i) + cntN n ≤ cntT t := by
  have := cntT_take t (i + 1)
  rw [take_succ_get h, cntT_app] at this
  simpa [cntT] using this
section
variable {w : World} {A : Around} {E : Value → Shared → Prop} {s : Shared} {c : Cx} {g : Vis} {m : Loc} {news own rest : Led} {d : Nat}
theorem r_callP {f : Value} {args : List Value} {P : Value → Vis → Led → Prop} {Q : Value → Shared → Prop} (S : Sn c g m news s) (r : Rm A d) (hp : news.Perm (own ++ rest)) (hf : Ct pw w c.G0 d f args g own P)
    (h : ∀ v s' g' own', Sn c g' m (own' ++ rest) s' → VSub g g' → own'.map (·.1) = own.map (·.1) → P v g' own' → Q v s') : wpAny (model pw w) A (call f args) Q E s := r_call (S.perm hp) r (Pick.self own rest) hf h
theorem r_leaveP {g₀ : Vis} {W : List Addr} {P : Value → Vis → Led → Prop} {v : Value} (S : Sn c g m news s) (e : Ente c g₀ W) (hp : news.Perm (own ++ rest)) (hw : own.map (·.1) = W) (p : P v g own) : RetQ c g₀ W P (.ret v) s := r_leave (S.perm hp) e (Pick.self own rest) hw p
theorem r_endP {g₀ : Vis} {W : List Addr} {P : Value → Vis → Led → Prop} (S : Sn c g m news s) (e : Ente c g₀ W) (hp : news.Perm (own ++ rest)) (hw : own.map (·.1) = W) (p : P .none g own) : RetQ c g₀ W P .next s := r_leaveP (v := .none) S e hp hw p
end
noncomputable abbrev PutSpec (w : World) (G0 : Heap) (d n : Nat) : Prop := ∀ (g : Vis) (a b : Addr) (hv : List Value) (nf : Nat) (t : List Nd) (D : Led) (vs : List Value) (nb : Nat), dpT t ≤ n → vs.length + 3 * cntT t ≤ 10000 → g a = some (lstO hv nf) → PL w.params g hv t D →
  Ct pw w G0 d (.ref 209) [.ref a, .ref b] g ((b, lstO vs nb) :: D) (fun v g' own' => v = .none ∧ ∃ ws nb', own' = (b, lstO (vs ++ ws) nb') :: D ∧ RdAll g' ws (plsD (flatT t)))
theorem k_put {w : World} {A : Around} {E : Value → Shared → Prop} {s : Shared} {c : Cx} {g : Vis} {m : Loc} {news rest : Led} {d n : Nat} {a b : Addr} {hv : List Value} {nf : Nat} {t : List Nd} {D : Led} {vs : List Value} {nb : Nat} {Q : Value → Shared → Prop} (H : PutSpec w c.G0 d n)
    (S : Sn c g m news s) (r : Rm A d) (h1 : dpT t ≤ n) (h3 : vs.length + 3 * cntT t ≤ 10000) (hg : g a = some (lstO hv nf)) (hpl : PL w.params g hv t D) (hp : news.Perm ((b, lstO vs nb) :: (D ++ rest)))
    (h : ∀ s' g' ws nb', VSub g g' → RdAll g' ws (plsD (flatT t)) → Sn c g' m ((b, lstO (vs ++ ws) nb') :: (D ++ rest)) s' → Q .none s') : wpAny (model pw w) A (call (.ref 209) [.ref a, .ref b]) Q E s := by
  refine r_callP (own := (b, lstO vs nb) :: D) (rest := rest) S r hp (H g a b hv nf t D vs nb h1 h3 hg hpl) ?_
  rintro v s' g' own' S' hv' _ ⟨rfl, ws, nb', rfl, hr⟩
  exact h s' g' ws nb' hv' hr S'


-- F15
inductive PutInv (P : Params) (g₀ : Vis) (t : List Nd) (a b : Addr) (vs : List Value) (D : Led) : Nat → Vis → Loc → Led → Prop
  | mk {i g ws nb u} : VSub g₀ g → RdAll g ws (plsD (flatT (t.take i))) → PutInv P g₀ t a b vs D i g [("pieces", .loc (some (.ref a))), ("body", .loc (some (.ref b))), ("piece", .loc u)] ((b, lstO (vs ++ ws) nb) :: D)
set_option maxHeartbeats 1000000 in
theorem sp_put1 {w : World} {G0 : Heap} (T : Tp w G0) {d n : Nat} (IH : ∀ e, n = e + 1 → PutSpec w G0 (d + 1) e) : PutSpec w G0 (d + 2) n := by
  intro g a b hv nf t D vs nb hdp hvl hga hpl
  refine ent (gls := [("put_pieces", .ref 209), ("ELSE", .int 5 220), ("END", .int 11 222)]) (m := [("pieces", .loc (some (.ref a))), ("body", .loc (some (.ref b))), ("piece", .loc none)]) (binds := [("pieces", .ref a), ("body", .ref b)]) (rest := ["piece"]) (T.K 209 o209 (by kernel_rfl)) (show o209.data = .func fd209 from rfl) T.nolim (codeRec_of T.K (by kernel_rfl)) rfl rfl rfl (fun _ _ => BindsTo.of_eq rfl) rfl (by kernel_rfl) (T.glb (by walk_at "gls")) ?_
  intro c s A r hG hgl he en S
  subst hG
  walk_at "go"
  with_reducible refine iter_list ‹Sn _ _ _ _ _› hga ?_; intro I o s7 S7 hI
  have hvt := hpl.length
  refine for_itr itr_list (PutInv w.params g t a b vs D) r.hd .name (.inl rfl) S7 hI (by have := PutInv.mk (P := w.params) (g₀ := g) (t := t) (a := a) (b := b) (vs := vs) (D := D) (i := 0) (g := g) (ws := []) (nb := nb) (u := none) (VSub.refl _) .nil; rwa [List.append_nil] at this) ?step ?fin
  case step =>
    rintro i v g2 g3 m own news s E' hi hv3 hP hT hI S
    cases hI with | @mk ws nb u hvs hrw =>
    have hg := hvs.trans hv3
    obtain ⟨nd, hnd⟩ : ∃ nd, t[i]? = some nd := ⟨t[i]'(by walk_at "om"), by simp⟩
    obtain ⟨v', Da, Di, Db, h1, hpn, rfl⟩ := hpl.get hnd
    obtain rfl : v' = v := Option.some.inj (h1.symm.trans hP)
    have hpn3 := hpn.up hg
    have hc1 := cnt_at hnd
    have hd1 := dp_get hnd
    have hwl : ws.length ≤ 3 * cntT (t.take i) := by
      rw [hrw.length, List.length_map]
      exact flatT_len (t.take i)
    have htk := take_succ_get hnd
    have hrw3 := hrw.up hv3
    cases hpn3 with
    | @leaf x dx k kn pa p hx hrp =>
      walk_at "go"
      with_reducible refine r_app ‹Sn _ _ _ _ _› (by walk_at "led") ?_ (by walk_at "szo"); intro s8 S8
      rw [List.append_assoc] at S8
      walk_at "go"
      refine loop_next (g' := g3) (VSub.refl _) (.mk hg ?_) ‹Sn _ _ _ _ _›
      rw [htk, flatT_app, plsD_app]
      exact hrw3.append (.cons hrp .nil)
    | @one x dx k kn pa p fa fv nf' f D1 hx hrp hgf hpl1 =>
      obtain ⟨e, rfl⟩ : ∃ e, n = e + 1 := ⟨n - 1, by simp [dpN] at hd1; walk_at "om"⟩
      simp only [dpN] at hd1
      simp only [cntN] at hc1
      have hfl2 := flatT_len f
      walk_at "go"
      with_reducible refine r_app ‹Sn _ _ _ _ _› (by walk_at "led") ?_ (by walk_at "szo"); intro s8 S8
      rw [List.append_assoc] at S8
      walk_at "go"
      with_reducible refine k_put (vs := vs ++ (ws ++ [.ref pa])) (nb := nb + 1) (IH e rfl) ‹Sn _ _ _ _ _› r (by walk_at "om") (by simp only [List.length_append, List.length_cons, List.length_nil]; walk_at "om") hgf hpl1 (rest := own ++ (Da ++ ((dx, pcO w.params k (.ref pa) (.ref fa) .none kn) :: Db))) ?_ ?_
      · refine perm_c fun x => ?_
        simp +arith only [List.count_append, List.count_cons]
      intro s9 g9 ws9 nb9 hv9 hr9 S9
      rw [List.append_assoc] at S9
      have hx9 := hv9 _ _ hx
      walk_at "go"
      with_reducible refine r_newTD ‹Sn _ _ _ _ _› (xs := iis [11]) (.cons (.int _ _) .nil) ?_ (by walk_at "sz"); intro rb s10 g10 hv10 hr10 S10
      walk_at "go"
      with_reducible refine r_app ‹Sn _ _ _ _ _› (by walk_at "led") ?_ (by have := hr9.length; simp only [List.length_map] at this; walk_at "szo"); intro s11 S11
      rw [List.append_assoc] at S11
      walk_at "go"
      refine loop_next (g' := g10) (hv9.trans hv10) (.mk (ws := ws ++ [.ref pa] ++ ws9 ++ [.ref rb]) (nb := nb9 + 1) (hg.trans (hv9.trans hv10)) ?_) (Sn.perm ‹Sn _ _ _ _ _› ?_)
      · have e : plsD (flatT (t.take i) ++ flatT [Nd.one p f]) = plsD (flatT (t.take i)) ++ [.tuple (iis p)] ++ plsD (flatT f) ++ [.tuple (iis [11])] := by
          simp [flatT, flatN, plsD]
        rw [htk, flatT_app, e]
        exact (((hrw3.append (.cons hrp .nil)).up (hv9.trans hv10)).append (hr9.up hv10)).append (.cons hr10 .nil)
      · simp only [List.append_assoc]
        refine perm_c fun x => ?_
        simp +arith only [List.count_append, List.count_cons]
    | @two x dx k kn pa p fa fv nf' f D1 sa sv ns sn D2 hx hrp hgf hpl1 hgs hpl2 =>
      obtain ⟨e, rfl⟩ : ∃ e, n = e + 1 := ⟨n - 1, by simp [dpN] at hd1; walk_at "om"⟩
      simp only [dpN] at hd1
      simp only [cntN] at hc1
      walk_at "go"
      with_reducible refine r_app ‹Sn _ _ _ _ _› (by walk_at "led") ?_ (by walk_at "szo"); intro s8 S8
      rw [List.append_assoc] at S8
      walk_at "go"
      with_reducible refine k_put (vs := vs ++ (ws ++ [.ref pa])) (nb := nb + 1) (IH e rfl) ‹Sn _ _ _ _ _› r (by walk_at "om") (by simp only [List.length_append, List.length_cons, List.length_nil]; walk_at "om") hgf hpl1 (rest := own ++ (Da ++ ((dx, pcO w.params k (.ref pa) (.ref fa) (.ref sa) kn) :: (D2 ++ Db)))) ?_ ?_
      · refine perm_c fun x => ?_
        simp +arith only [List.count_append, List.count_cons]
      intro s9 g9 ws9 nb9 hv9 hr9 S9
      have hwl9 : ws9.length ≤ 3 * cntT f := by
        rw [hr9.length, List.length_map]; exact flatT_len f
      rw [List.append_assoc] at S9
      have hx9 := hv9 _ _ hx
      walk_at "go"
      with_reducible refine r_newTD ‹Sn _ _ _ _ _› (xs := iis [5]) (.cons (.int _ _) .nil) ?_ (by walk_at "sz"); intro rb s10 g10 hv10 hr10 S10
      walk_at "go"
      with_reducible refine r_app ‹Sn _ _ _ _ _› (by walk_at "led") ?_ (by walk_at "szo"); intro s11 S11
      rw [List.append_assoc] at S11
      have hx10 := hv10 _ _ hx9
      have hgs10 := hv10 _ _ (hv9 _ _ hgs)
      walk_at "go"
      with_reducible refine k_put (vs := vs ++ ((ws ++ [.ref pa] ++ ws9) ++ [.ref rb])) (nb := nb9 + 1) (IH e rfl) ‹Sn _ _ _ _ _› r (by walk_at "om") (by simp only [List.length_append, List.length_cons, List.length_nil]; walk_at "om") hgs10 (hpl2.up (hv9.trans hv10))  (rest := D1 ++ (own ++ (Da ++ ((dx, pcO w.params k (.ref pa) (.ref fa) (.ref sa) kn) :: Db)))) ?_ ?_
      · refine perm_c fun x => ?_
        simp +arith only [List.count_append, List.count_cons]
      intro s12 g12 ws12 nb12 hv12 hr12 S12
      rw [List.append_assoc] at S12
      walk_at "go"
      with_reducible refine r_newTD ‹Sn _ _ _ _ _› (xs := iis [11]) (.cons (.int _ _) .nil) ?_ (by walk_at "sz"); intro rc s13 g13 hv13 hr13 S13
      walk_at "go"
      with_reducible refine r_app ‹Sn _ _ _ _ _› (by walk_at "led") ?_ (by have := hr12.length; simp only [List.length_map] at this; have := flatT_len sn; walk_at "szo"); intro s14 S14
      rw [List.append_assoc] at S14
      walk_at "go"
      have hv3 := ((hv9.trans hv10).trans hv12).trans hv13
      refine loop_next (g' := g13) hv3 (.mk (ws := ((ws ++ [.ref pa] ++ ws9) ++ [.ref rb]) ++ ws12 ++ [.ref rc]) (nb := nb12 + 1) (hg.trans hv3) ?_) (Sn.perm ‹Sn _ _ _ _ _› ?_)
      · have e : plsD (flatT (t.take i) ++ flatT [Nd.two p f sn]) = plsD (flatT (t.take i)) ++ [.tuple (iis p)] ++ plsD (flatT f) ++ [.tuple (iis [5])] ++ plsD (flatT sn) ++ [.tuple (iis [11])] := by
          simp [flatT, flatN, plsD]
        rw [htk, flatT_app, e]
        exact (((((hrw3.append (.cons hrp .nil)).up hv3).append (hr9.up ((hv10.trans hv12).trans hv13))).append (.cons (hr10.up (hv12.trans hv13)) .nil)).append (hr12.up hv13)).append (.cons hr13 .nil)
      · simp only [List.append_assoc]
        refine perm_c fun x => ?_
        simp +arith only [List.count_append, List.count_cons]
  case fin =>
    rintro g2 m news s hI S
    cases hI with | @mk ws nb u hvs hrw =>
    walk_at "go"
    rw [hvt, List.take_length] at hrw
    exact r_endP ‹Sn _ _ _ _ _› en (own := (b, lstO (vs ++ ws) nb) :: D) (rest := []) (by rw [List.append_nil]) rfl ⟨rfl, ws, nb, rfl, hrw⟩


-- F16a
theorem put_all {w : World} {G0 : Heap} (T : Tp w G0) : ∀ n : Nat, PutSpec w G0 (n + 2) n
  | 0 => sp_put1 (d := 0) T fun e h => by cases h
  | n + 1 => sp_put1 (d := n + 1) T fun e h => by cases h; exact put_all T n
noncomputable def ndP : Nd → List Int
  | .leaf p => p
  | .one p _ => p
  | .two p _ _ => p
noncomputable def partsN : Nd → List (List Nd)
  | .leaf _ => []
  | .one _ f => [f]
  | .two _ f s => [f, s]
noncomputable def mkN : Nd → List Int → List (List Nd) → Nd
  | .one _ _, p, [f] => .one p f
  | .two _ _ _, p, [f, s] => .two p f s
  | _, p, _ => .leaf p
inductive PPs (P : Params) (g : Vis) : List Value → List (List Nd) → Led → Prop
  | nil : PPs P g [] [] []
  | cons {a hv nf t D vs ts D2} : g a = some (lstO hv nf) → PL P g hv t D → PPs P g vs ts D2 → PPs P g (.ref a :: vs) (t :: ts) (D ++ D2)
theorem PPs.up {P : Params} {g g' : Vis} {vs : List Value} {ts : List (List Nd)} {D : Led} (h : VSub g g') (H : PPs P g vs ts D) : PPs P g' vs ts D := by
  induction H with
  | nil => exact .nil
  | cons a b _ ih => exact .cons (h _ _ a) (b.up h) ih
theorem PPs.length {P : Params} {g : Vis} {vs : List Value} {ts : List (List Nd)} {D : Led} (H : PPs P g vs ts D) : vs.length = ts.length := by
  induction H with
  | nil => rfl
  | cons _ _ _ ih => simp [ih]
theorem PPs.get {P : Params} {g : Vis} {vs : List Value} {ts : List (List Nd)} {D : Led} (H : PPs P g vs ts D) : ∀ {i : Nat} {v : Value}, vs[i]? = some v → ∃ a hv nf t Da Di Db, v = .ref a ∧ ts[i]? = some t ∧ g a = some (lstO hv nf) ∧ PL P g hv t Di ∧ D = Da ++ (Di ++ Db) := by
  induction H with
  | nil => intro i v h; cases h
  | @cons a hv nf t D vs ts D2 h1 h2 _ ih =>
    intro i v h
    cases i with
    | zero => cases h; exact ⟨a, hv, nf, t, [], D, D2, rfl, rfl, h1, h2, rfl⟩
    | succ i =>
      obtain ⟨a', hv', nf', t', Da, Di, Db, e, e1, e2, e3, rfl⟩ := ih (i := i) (by simpa using h)
      exact ⟨a', hv', nf', t', D ++ Da, Di, Db, e, by simpa using e1, e2, e3, by rw [List.append_assoc]⟩
noncomputable def shapeOk : Nd → Value → Value → Prop
  | .leaf _, f, s => f = .none ∧ s = .none
  | .one _ _, f, s => (∃ a, f = .ref a) ∧ s = .none
  | .two _ _ _, f, s => (∃ a, f = .ref a) ∧ ∃ a, s = .ref a
/-- a piece, opened -/
inductive PO (P : Params) (g : Vis) (nd : Nd) : Value → Led → Prop
  | mk {x dx k n pa f s D} : g x = some (instObj 191 dx) → Rd g (.ref pa) (.tuple (iis (ndP nd))) → OV f → OV s → PPs P g (partsL f s) (partsN nd) D →
      (∀ g' k' pa' n' p' ts D2, g' x = some (instObj 191 dx) → Rd g' (.ref pa') (.tuple (iis p')) → PPs P g' (partsL f s) ts D2 → PN P g' (.ref x) (mkN nd p' ts) ((dx, pcO P k' (.ref pa') f s n') :: D2)) → shapeOk nd f s →
      PO P g nd (.ref x) ((dx, pcO P k (.ref pa) f s n) :: D)
theorem PN.open {P : Params} {g : Vis} {v : Value} {nd : Nd} {D : Led} (H : PN P g v nd D) : PO P g nd v D := by
  cases H with
  | leaf a b =>
    refine .mk a b (.inl rfl) (.inl rfl) .nil (fun g' k' pa' n' p' ts D2 h1 h2 h3 => ?_) ⟨rfl, rfl⟩
    cases h3
    exact .leaf h1 h2
  | one a b c d =>
    refine .mk a b (.inr ⟨_, rfl⟩) (.inl rfl) (by have := PPs.cons c d .nil; rwa [List.append_nil] at this) (fun g' k' pa' n' p' ts D2 h1 h2 h3 => ?_) ⟨⟨_, rfl⟩, rfl⟩
    cases h3 with | cons e1 e2 e3 =>
    cases e3
    rw [List.append_nil]
    exact .one h1 h2 e1 e2
  | two a b c d e f =>
    refine .mk a b (.inr ⟨_, rfl⟩) (.inr ⟨_, rfl⟩) (by have := PPs.cons c d (.cons e f .nil); rwa [List.append_nil] at this) (fun g' k' pa' n' p' ts D2 h1 h2 h3 => ?_) ⟨⟨_, rfl⟩, _, rfl⟩
    cases h3 with | cons e1 e2 e3 =>
    cases e3 with | cons e3 e4 e5 =>
    cases e5
    rw [List.append_nil]
    exact .two h1 h2 e1 e2 e3 e4
section
variable {w : World} {A : Around} {E : Value → Shared → Prop} {s : Shared} {c : Cx} {g : Vis} {m : Loc} {news : Led} {d : Nat}
theorem k_parts {x dx : Addr} {k : Tk3} {n : Nat} {p f sd : Value} {Q : Value → Shared → Prop} (S : Sn c g m news s) (r : Rm A (d + 1)) (T : Tp w c.G0) (hx : g x = some (instObj 191 dx)) (hm : LMem dx (pcO w.params k p f sd n) news) (hf : OV f) (hs : OV sd)
    (h : ∀ D k' s' g', VSub g g' → g' D = some (lstO (partsL f sd) k') → Sn c g' m news s' → Q (.ref D) s') : wpAny (model pw w) A (call (.ref 181) [.ref x]) Q E s := by
  refine r_callU1 S r hm (sp_parts T hx hf hs) ?_
  rintro v s' g' S' hv ⟨D, k', rfl, hg⟩
  exact h D k' s' g' hv hg S'
theorem k_labels {x dx pa : Addr} {k : Tk3} {n : Nat} {f sd : Value} {c0 : Int} {l : List Int} {Q : Value → Shared → Prop} (S : Sn c g m news s) (r : Rm A (d + 3)) (T : Tp w c.G0) (hx : g x = some (instObj 191 dx)) (hm : LMem dx (pcO w.params k (.ref pa) f sd n) news) (hr : Rd g (.ref pa) (.tuple (iis (c0 :: l)))) (hl : l.length ≤ 20)
    (h : ∀ a s' g', VSub g g' → Rd g' (.ref a) (.tuple (iis (labelsOf (c0 :: l)))) → Sn c g' m news s' → Q (.ref a) s') : wpAny (model pw w) A (call (.ref 188) [.ref x]) Q E s := by
  refine r_callU1 S r hm (sp_labels T hx hr hl) ?_
  rintro v s' g' S' hv ⟨a, rfl, hg⟩
  exact h a s' g' hv hg S'
end
/-- what is asked of the plains -/
noncomputable def PlnOk (t : List Nd) : Prop := ∀ p ∈ flatT t, p ≠ [] ∧ p.length ≤ 10
theorem mem_flatT {t : List Nd} {i : Nat} {n : Nd} {p : List Int} (h : t[i]? = some n) (hp : p ∈ flatN n) : p ∈ flatT t := by
  induction t generalizing i with
  | nil => simp at h
  | cons m r ih =>
    cases i with
    | zero => cases h; exact List.mem_append_left _ hp
    | succ i => exact List.mem_append_right _ (ih (i := i) (by simpa using h))
theorem PlnOk.at {t : List Nd} {i : Nat} {n : Nd} (H : PlnOk t) (h : t[i]? = some n) : ∃ c l, ndP n = c :: l ∧ l.length ≤ 10 := by
  have hm : ndP n ∈ flatN n := by cases n <;> simp [ndP, flatN]
  have := H _ (mem_flatT h hm)
  cases e : ndP n with
  | nil => exact absurd e this.1
  | cons c l => have h2 := this.2; rw [e, List.length_cons] at h2; exact ⟨c, l, rfl, by lia⟩
theorem PlnOk.part {t : List Nd} {i j : Nat} {n : Nd} {f : List Nd} (H : PlnOk t) (h : t[i]? = some n) (hf : (partsN n)[j]? = some f) : PlnOk f := fun p hp => H p (mem_flatT h (by
  cases n with
  | leaf q => simp [partsN] at hf
  | one q f' => cases j <;> simp [partsN] at hf; subst hf; simp [flatN, hp]
  | two q f' s =>
    match j, hf with
    | 0, hf => simp [partsN] at hf; subst hf; simp [flatN, hp]
    | 1, hf => simp [partsN] at hf; subst hf; simp [flatN, hp]
    | j + 2, hf => simp [partsN] at hf))
theorem dp_part {n : Nd} {j : Nat} {f : List Nd} (hf : (partsN n)[j]? = some f) : dpT f + 1 ≤ dpN n := by
  cases n with
  | leaf q => simp [partsN] at hf
  | one q f' => cases j <;> simp [partsN] at hf; subst hf; simp [dpN]; lia
  | two q f' s =>
    match j, hf with
    | 0, hf => simp [partsN] at hf; subst hf; simp [dpN]; lia
    | 1, hf => simp [partsN] at hf; subst hf; simp [dpN]; lia
    | j + 2, hf => simp [partsN] at hf
noncomputable def inL (k : Int) (l : List Int) : Bool := decide (k ∈ l)
mutual
noncomputable def namedN : Nd → Int → Bool
  | .leaf p, k => inL k (labelsOf p)
  | .one p f, k => inL k (labelsOf p) || namedT f (k + 1)
  | .two p f s, k => inL k (labelsOf p) || (namedT f (k + 1) || namedT s (k + 1))
noncomputable def namedT : List Nd → Int → Bool
  | [], _ => false
  | n :: r, k => namedN n k || namedT r k
end
theorem namedN_eq (n : Nd) (k : Int) : namedN n k = (inL k (labelsOf (ndP n)) || (partsN n).any fun f => namedT f (k + 1)) := by
  cases n <;> simp [namedN, ndP, partsN]
theorem namedT_app (k : Int) : ∀ a b : List Nd, namedT (a ++ b) k = (namedT a k || namedT b k)
  | [], b => by simp [namedT]
  | n :: r, b => by simp [namedT, namedT_app k r b, Bool.or_assoc]
theorem namedT_get {t : List Nd} {i : Nat} {n : Nd} {k : Int} (h : t[i]? = some n) (hn : namedN n k = true) : namedT t k = true := by
  have e := List.take_append_drop (i + 1) t
  rw [← e, namedT_app, take_succ_get h, namedT_app]
  simp [namedT, hn]


-- F16
theorem sp_body {w : World} {G0 : Heap} (T : Tp w G0) {d : Nat} {g : Vis} {a : Addr} {hv : List Value} {nf : Nat} {t : List Nd} {D : Led} (hdp : dpT t ≤ 3) (hct : cntT t ≤ 1000) (hg : g a = some (lstO hv nf)) (hpl : PL w.params g hv t D) :
    Ct pw w G0 (d + 6) (.ref 216) [.ref a] g D (fun v g' own' => own' = D ∧ ∃ b, v = .ref b ∧ Rd g' v (.list (plsD (flatT t ++ [[11]])))) := by
  refine ent (gls := [("put_pieces", .ref 209), ("END", .int 11 222)]) (m := [("pieces", .loc (some (.ref a))), ("body", .loc none)]) (binds := [("pieces", .ref a)]) (rest := ["body"]) (T.K 216 o216 (by kernel_rfl)) (show o216.data = .func fd216 from rfl) T.nolim (codeRec_of T.K (by kernel_rfl)) rfl rfl rfl (fun _ _ => BindsTo.of_eq rfl) rfl (by kernel_rfl) (T.glb (by walk_at "gls")) ?_
  intro c s A r hG hgl he en S
  subst hG
  walk_at "go"
  with_reducible refine r_newL ‹Sn _ _ _ _ _› ?_ (by walk_at "sz"); intro b s1 hb S1
  walk_at "go"
  with_reducible refine k_put (vs := []) (nb := 0) (n := 3) (put_all T 3) ‹Sn _ _ _ _ _› (r.le (by walk_at "le")) hdp (by simp only [List.length_nil]; walk_at "om") hg hpl (rest := []) (by rw [List.append_nil]) ?_
  intro s2 g2 ws nb hv2 hr2 S2
  rw [List.nil_append, List.append_nil] at S2
  have hwl : ws.length ≤ 3 * cntT t := by
    rw [hr2.length, List.length_map]; exact flatT_len t
  walk_at "go"
  with_reducible refine r_newTD ‹Sn _ _ _ _ _› (xs := iis [11]) (.cons (.int _ _) .nil) ?_ (by walk_at "sz"); intro rb s3 g3 hv3 hr3 S3
  walk_at "go"
  with_reducible refine r_app ‹Sn _ _ _ _ _› (by walk_at "led") ?_ (by walk_at "szo"); intro s4 S4
  walk_at "go"
  refine Sn.lockK (a := b) ‹Sn _ _ _ _ _› (by walk_at "led") hb fun g5 hv5 hg5 S5 => ?_
  refine r_leaveP S5 en (own := D) (rest := []) (by rw [List.append_nil]) rfl ⟨rfl, b, rfl, ?_⟩
  rw [plsD_app]
  exact .lst hg5 (((hr2.up hv3).append (.cons hr3 .nil)).up hv5)
noncomputable abbrev NamedSpec (w : World) (G0 : Heap) (d n : Nat) : Prop := ∀ (g : Vis) (a : Addr) (hv : List Value) (nf : Nat) (t : List Nd) (D : Led) (k : Int) (tk : Tok), dpT t ≤ n → PlnOk t → g a = some (lstO hv nf) → PL w.params g hv t D →
  Ct pw w G0 d (.ref 223) [.ref a, .int k tk] g D (fun v _ own' => own' = D ∧ v = .bool (namedT t k))
inductive NmInv (g₀ : Vis) (t : List Nd) (a : Addr) (k : Int) (tk : Tok) (D : Led) : Nat → Vis → Loc → Led → Prop
  | mk {i g u1 u2} : VSub g₀ g → namedT (t.take i) k = false → NmInv g₀ t a k tk D i g [("pieces", .loc (some (.ref a))), ("depth", .loc (some (.int k tk))), ("piece", .loc u1), ("part", .loc u2)] D
inductive NmInv2 (g₀ : Vis) (ts : List (List Nd)) (a : Addr) (v : Value) (k : Int) (tk : Tok) (D : Led) : Nat → Vis → Loc → Led → Prop
  | mk {i g u2} : VSub g₀ g → (ts.take i).any (fun f => namedT f (k + 1)) = false → NmInv2 g₀ ts a v k tk D i g [("pieces", .loc (some (.ref a))), ("depth", .loc (some (.int k tk))), ("piece", .loc (some v)), ("part", .loc u2)] D
set_option maxHeartbeats 1000000 in
theorem sp_named1 {w : World} {G0 : Heap} (T : Tp w G0) {d n : Nat} (IH : ∀ e, n = e + 1 → NamedSpec w G0 (d + 3) e) : NamedSpec w G0 (d + 4) n := by
  intro g a hv nf t D k tk hdp hpn hga hpl
  refine ent (gls := [("is_named", .ref 223)]) (m := [("pieces", .loc (some (.ref a))), ("depth", .loc (some (.int k tk))), ("piece", .loc none), ("part", .loc none)]) (binds := [("pieces", .ref a), ("depth", .int k tk)]) (rest := ["piece", "part"]) (T.K 223 o223 (by kernel_rfl)) (show o223.data = .func fd223 from rfl) T.nolim (codeRec_of T.K (by kernel_rfl)) rfl rfl rfl (fun _ _ => BindsTo.of_eq rfl) rfl (by kernel_rfl) (T.glb (by walk_at "gls")) ?_
  intro c s A r hG hgl he en S
  subst hG
  walk_at "go"
  with_reducible refine iter_list ‹Sn _ _ _ _ _› hga ?_; intro I o s7 S7 hI
  have hvt := hpl.length
  refine for_itr itr_list (NmInv g t a k tk D) r.hd .name (.inl rfl) S7 hI (.mk (VSub.refl _) rfl) ?step ?fin
  case step =>
    rintro i v g2 g3 m own news s E' hi hv3 hP hT hI S
    cases hI with | @mk u1 u2 hvs hno =>
    have hg := hvs.trans hv3
    obtain ⟨nd, hnd⟩ : ∃ nd, t[i]? = some nd := ⟨t[i]'(by walk_at "om"), by simp⟩
    obtain ⟨v', Da, Di, Db, h1, hpn', rfl⟩ := hpl.get hnd
    obtain rfl : v' = v := Option.some.inj (h1.symm.trans hP)
    obtain ⟨c0, l, hcl, hll⟩ := hpn.at hnd
    have hd1 := dp_get hnd
    cases (hpn'.up hg).open with | @mk x dx kk kn pa f sd D1 hx hrp hf hs hpp _ _ =>
    rw [hcl] at hrp
    walk_at "go"
    with_reducible refine k_labels (d := d) ‹Sn _ _ _ _ _› r T hx (by walk_at "led") hrp (Nat.le_trans hll (by decide)) ?_; intro la s8 g8 hv8 hr8 S8
    with_reducible refine c_inT ‹Sn _ _ _ _ _› r hr8 ?_
    walk_at "go"
    with_reducible refine i_dec (fun q1 => ?_) (fun q1 => ?_)
    · walk_at "go"
      have e : namedT t k = true := namedT_get hnd (by rw [namedN_eq, hcl]; simp [inL, q1])
      exact r_leaveP S8 en (own := Da ++ ((dx, _) :: D1 ++ Db)) (rest := own) List.perm_append_comm rfl ⟨rfl, by rw [e]⟩
    · have hx8 := hv8 _ _ hx
      walk_at "go"
      with_reducible refine k_parts (d := d) ‹Sn _ _ _ _ _› (r.le (by walk_at "le")) T hx8 (by walk_at "led") hf hs ?_; intro pl kp s9 g9 hv9 hg9 S9
      with_reducible refine iter_list ‹Sn _ _ _ _ _› hg9 ?_; intro I2 o2 s10 S10 hI2
      have hpl2 := hpp.length
      have hv39 := hv8.trans hv9
      refine for_itr itr_list (NmInv2 g9 (partsN nd) a (.ref x) k tk (own ++ (Da ++ ((dx, pcO w.params kk (.ref pa) f sd kn) :: D1 ++ Db)))) r.hd .name (.inl rfl) S10 hI2 (.mk (VSub.refl _) rfl) ?step2 ?fin2
      case step2 =>
        rintro j v2 g10 g11 m2 own2 news2 s11 E2 hj hv11 hP2 hT2 hJ S11
        cases hJ with | @mk u3 hvs2 hno2 =>
        obtain ⟨a2, hv2, nf2, f2, Da2, Di2, Db2, rfl, hf2, hg2, hpl3, rfl⟩ := hpp.get hP2
        have hd2 := dp_part hf2
        obtain ⟨e, rfl⟩ : ∃ e, n = e + 1 := ⟨n - 1, by walk_at "om"⟩
        have hv311 := (hv39.trans hvs2).trans hv11
        have hg211 := hv311 _ _ hg2
        walk_at "go"
        with_reducible refine r_callP (own := Di2) (rest := own2 ++ (own ++ (Da ++ ((dx, pcO w.params kk (.ref pa) f sd kn) :: (Da2 ++ (Db2 ++ Db)))))) ‹Sn _ _ _ _ _› r ?_ (IH e rfl g11 a2 hv2 nf2 f2 Di2 (k + 1) _ (by walk_at "om") (hpn.part hnd hf2) hg211 (hpl3.up hv311)) ?_
        · simp only [List.append_assoc, List.cons_append]
          refine perm_c fun x => ?_
          simp +arith only [List.count_append, List.count_cons]
        rintro v12 s12 g12 own12 S12 hv12 hw12 ⟨rfl, rfl⟩
        have S12 := S12.perm (news' := own2 ++ (own ++ (Da ++ ((dx, pcO w.params kk (.ref pa) f sd kn) :: (Da2 ++ (own12 ++ Db2)) ++ Db)))) (by
          simp only [List.append_assoc, List.cons_append]
          refine perm_c fun x => ?_
          simp +arith only [List.count_append, List.count_cons])
        walk_at "go"
        with_reducible refine i_b (fun q2 => ?_) (fun q2 => ?_)
        · walk_at "go"
          have e : namedT t k = true := namedT_get hnd (by rw [namedN_eq, Bool.or_eq_true]; exact .inr (List.any_eq_true.mpr ⟨f2, List.mem_of_getElem? hf2, q2⟩))
          refine r_leaveP S12 en (own := Da ++ ((dx, _) :: (Da2 ++ (own12 ++ Db2)) ++ Db)) (rest := own2 ++ own) ?_ rfl ⟨rfl, by rw [e]⟩
          refine perm_c fun x => ?_
          simp +arith only [List.count_append, List.count_cons]
        · walk_at "go"
          refine loop_next (g' := g12) hv12 (.mk ((hvs2.trans hv11).trans hv12) ?_) ‹Sn _ _ _ _ _›
          rw [take_succ_get hf2, List.any_append, hno2]
          simp [q2]
      case fin2 =>
        rintro g10 m2 news2 s11 hJ S11
        cases hJ with | @mk u3 hvs2 hno2 =>
        rw [hpl2, List.take_length] at hno2
        walk_at "go"
        refine loop_next (g' := g10) (hv39.trans hvs2) (.mk (hg.trans (hv39.trans hvs2)) ?_) ‹Sn _ _ _ _ _›
        rw [take_succ_get hnd, namedT_app, hno]
        simp only [namedT, namedN_eq, hcl, hno2, inL, decide_eq_false q1, Bool.or_false]
  case fin =>
    rintro g2 m news s hI S
    cases hI with | @mk u1 u2 hvs hno =>
    rw [hvt, List.take_length] at hno
    walk_at "go"
    exact r_leaveP ‹Sn _ _ _ _ _› en (own := D) (rest := []) (by rw [List.append_nil]) rfl ⟨rfl, by rw [hno]⟩


-- F17a
theorem named_all {w : World} {G0 : Heap} (T : Tp w G0) : ∀ n : Nat, NamedSpec w G0 (n + 4) n
  | 0 => sp_named1 (d := 0) T fun e h => by cases h
  | n + 1 => sp_named1 (d := n + 1) T fun e h => by cases h; exact named_all T n
mutual
theorem eqv_refl : ∀ d : PyData, d.canLay0 = true → PyData.eqv d d = true
  | .none, _ => rfl
  | .bool b, _ => by simp [PyData.eqv]
  | .int i, _ => by simp [PyData.eqv]
  | .str x, _ => by simp [PyData.eqv]
  | .list xs, h => eqvAll_refl xs h
  | .tuple xs, h => eqvAll_refl xs h
  | .dict _, h => by simp [PyData.canLay0] at h
theorem eqvAll_refl : ∀ ds : List PyData, PyData.canLayAll0 ds = true → PyData.eqvAll ds ds = true
  | [], _ => rfl
  | x :: xs, h => by
    have h' : x.canLay0 = true ∧ PyData.canLayAll0 xs = true := Bool.and_eq_true_iff.mp h
    show (PyData.eqv x x && PyData.eqvAll xs xs) = true
    rw [eqv_refl x h'.1, eqvAll_refl xs h'.2]; rfl
end
theorem eqvAll_nil (l : List Int) : PyData.eqvAll (iis l) [] = decide (l = []) := by cases l <;> simp [PyData.eqvAll]
theorem depth_ints : ∀ l : List Int, PyData.depthAll (iis l) = 0
  | [] => rfl
  | _ :: r => by simp [PyData.depthAll, PyData.depth, depth_ints r]
theorem shaped_ti (l : List Int) : shaped (.tuple (iis l)) = true := by
  simp [shaped, PyData.canLay0, PyData.depth, canLay_ints, depth_ints]
theorem pls_lay : ∀ L : List (List Int), PyData.canLayAll0 (plsD L) = true ∧ PyData.depthAll (plsD L) ≤ 1
  | [] => ⟨rfl, Nat.zero_le _⟩
  | l :: r => by
    obtain ⟨a, b⟩ := pls_lay r
    refine ⟨?_, ?_⟩
    · show ((PyData.tuple (iis l)).canLay0 && PyData.canLayAll0 (plsD r)) = true
      rw [a]; simp [PyData.canLay0, canLay_ints]
    · show max (PyData.depth (.tuple (iis l))) (PyData.depthAll (plsD r)) ≤ 1
      simp only [PyData.depth, depth_ints]; exact Nat.max_le.mpr ⟨Nat.le_refl _, b⟩
theorem shaped_pls (L : List (List Int)) : shaped (.list (plsD L)) = true := by
  obtain ⟨a, b⟩ := pls_lay L
  simp [shaped, PyData.canLay0, PyData.depth, a]; lia
section
variable {w : World} {A : Around} {E : Value → Shared → Prop} {s : Shared} {c : Cx} {g : Vis} {m : Loc} {news : Led} {d : Nat}
theorem c_neD {a b : Value} {x : PyData} {Q : Value → Shared → Prop} (S : Sn c g m news s) (rm : Rm A d) (ra : Rd g a x) (rb : Rd g b x) (hx : shaped x = true) (h : Q (.bool false) s) : wpAny (model pw w) A (compareOp .NotEq a b) Q E s :=
  Mine.r_ne S.st rm ra rb hx hx (by rw [eqv_refl x (canLay_of_shaped hx)]; exact h)
theorem c_eqD {a b : Value} {x : PyData} {Q : Value → Shared → Prop} (S : Sn c g m news s) (rm : Rm A d) (ra : Rd g a x) (rb : Rd g b x) (hx : shaped x = true) (h : Q (.bool true) s) : wpAny (model pw w) A (compareOp .Eq a b) Q E s :=
  Mine.r_eq S.st rm ra rb hx hx (by rw [eqv_refl x (canLay_of_shaped hx)]; exact h)
theorem c_ne0 {a b : Value} {l : List Int} {Q : Value → Shared → Prop} (S : Sn c g m news s) (rm : Rm A d) (ra : Rd g a (.tuple (iis l))) (rb : Rd g b (.tuple (iis []))) (h : Q (.bool (!decide (l = []))) s) : wpAny (model pw w) A (compareOp .NotEq a b) Q E s :=
  Mine.r_ne S.st rm ra rb (shaped_ti l) (shaped_ti []) (by show Q (.bool (!PyData.eqvAll (iis l) [])) s; rw [eqvAll_nil]; exact h)
theorem b_addT {a b : Addr} {vs ws : List Value} {n n2 : Nat} {Q : Value → Shared → Prop} (S : Sn c g m news s) (ha : s.heap.get? a = some { cls := .type "tuple", data := .seq (List.toArray vs) n }) (hb : s.heap.get? b = some { cls := .type "tuple", data := .seq (List.toArray ws) n2 })
    (h1 : vs ≠ []) (h2 : ws ≠ []) (h : ∀ r s', c.n₀ ≤ r → Sn c g m ((r, tupO (vs ++ ws)) :: news) s' → Q (.ref r) s') (hsz : vs.length + ws.length ≤ sizeLine) : wpAny (model pw w) A (binaryOp .Add (.ref a) (.ref b)) Q E s :=
  add_tuples (hsz := hsz) S.fr.1 S.fr.2 ⟨_, ha, rfl, n, rfl⟩ ⟨_, hb, rfl, n2, rfl⟩ (fun e => absurd e h1) (fun _ e => absurd e h2) fun _ _ _ F N => h _ _ S.sz (S.ofFr1 (tk := s.toks) (Nat.le_refl _) F N)
end
theorem i_joinS {M : Model} {A : Around} {E : Value → Shared → Prop} {s : Shared} {env : Env} {b : Bool} {body orelse : List Stmt} {Z : Flow → Shared → Prop} (J : Shared → Prop)
    (h : if b = true then wpAny M A (execs body env) (fun f s' => f = .next ∧ J s') E s else wpAny M A (execs orelse env) (fun f s' => f = .next ∧ J s') E s) (k : ∀ s', J s' → Z .next s') :
    if b = true then wpAny M A (execs body env) Z E s else wpAny M A (execs orelse env) Z E s := by
  have key : ∀ f s', (f = Flow.next ∧ J s') → Z f s' := fun f s' q => by obtain ⟨rfl, q⟩ := q; exact k s' q
  cases b
  · simp only [Bool.false_eq_true, if_false] at h ⊢; exact wpAny_mono h key fun _ _ e => e
  · simp only [if_true] at h ⊢; exact wpAny_mono h key fun _ _ e => e
theorem PPs.app {P : Params} {g : Vis} {vs ws : List Value} {ts us : List (List Nd)} {D D2 : Led} (H : PPs P g vs ts D) (H2 : PPs P g ws us D2) : PPs P g (vs ++ ws) (ts ++ us) (D ++ D2) := by
  induction H with
  | nil => exact H2
  | cons a b _ ih => have := PPs.cons a b ih; rwa [← List.append_assoc] at this
theorem map_mid {α β : Type} {f : α → β} {D D' a b c : List α} (h : (a ++ (b ++ c)).map f = D.map f) (h2 : D'.map f = b.map f) : ((a ++ (D' ++ [])) ++ c).map f = D.map f := by
  rw [← h]; simp [h2]
noncomputable def lowP (d : Int) (p : List Int) : List Int := if labelsOf p = [] then p else p.take 1 ++ (labelsOf p).map fun l => if l > d then l - 1 else l
mutual
noncomputable def lowN : Nd → Int → Nd
  | .leaf p, d => .leaf (lowP d p)
  | .one p f, d => .one (lowP d p) (lowT f (d + 1))
  | .two p f s, d => .two (lowP d p) (lowT f (d + 1)) (lowT s (d + 1))
noncomputable def lowT : List Nd → Int → List Nd
  | [], _ => []
  | n :: r, d => lowN n d :: lowT r d
end
theorem lowN_eq (n : Nd) (d : Int) : lowN n d = mkN n (lowP d (ndP n)) ((partsN n).map fun f => lowT f (d + 1)) := by
  cases n <;> simp [lowN, mkN, ndP, partsN]
theorem lowT_app (d : Int) : ∀ a b : List Nd, lowT (a ++ b) d = lowT a d ++ lowT b d
  | [], b => rfl
  | n :: r, b => by simp [lowT, lowT_app d r b]
theorem bnd_a {a b d : Nat} (h1 : a = 1) (h2 : b = d) (h4 : d ≤ 10) : a + b ≤ 2 ^ 24 := by rw [h1, h2]; exact Nat.le_trans (Nat.add_le_add_left h4 1) (by decide)


-- F17
noncomputable abbrev mLw (a Lc : Addr) (k : Int) (tk : Tok) (u1 u2 : Option Value) : Loc := [("pieces", .loc (some (.ref a))), ("depth", .cell (Lc + 1) (some (.int k tk))), ("piece", .loc u1), ("part", .loc u2)]
noncomputable abbrev LowSpec (w : World) (G0 : Heap) (d n : Nat) : Prop := ∀ (g : Vis) (a : Addr) (hv : List Value) (nf : Nat) (t : List Nd) (D : Led) (k : Int) (tk : Tok), dpT t ≤ n → PlnOk t → g a = some (lstO hv nf) → PL w.params g hv t D →
  Ct pw w G0 d (.ref 228) [.ref a, .int k tk] g D (fun v g' own' => v = .none ∧ PL w.params g' hv (lowT t k) own')
inductive LwInv (P : Params) (g₀ : Vis) (hv : List Value) (t : List Nd) (a Lc : Addr) (k : Int) (tk : Tok) (D : Led) : Nat → Vis → Loc → Led → Prop
  | mk {i g u1 u2 Da Db} : VSub g₀ g → PL P g (hv.take i) (lowT (t.take i) k) Da → PL P g (hv.drop i) (t.drop i) Db → (Da ++ Db).map (·.1) = D.map (·.1) → LwInv P g₀ hv t a Lc k tk D i g (mLw a Lc k tk u1 u2) (Da ++ Db)
inductive LwInv2 (P : Params) (g₀ : Vis) (vs : List Value) (ts : List (List Nd)) (a Lc : Addr) (v : Value) (k : Int) (tk : Tok) (R D : Led) : Nat → Vis → Loc → Led → Prop
  | mk {i g u2 Da Db} : VSub g₀ g → PPs P g (vs.take i) ((ts.take i).map fun f => lowT f (k + 1)) Da → PPs P g (vs.drop i) (ts.drop i) Db → (Da ++ Db).map (·.1) = D.map (·.1) → LwInv2 P g₀ vs ts a Lc v k tk R D i g (mLw a Lc k tk (some v) u2) (R ++ (Da ++ Db))
set_option maxHeartbeats 1000000 in
theorem sp_lower1 {w : World} {G0 : Heap} (T : Tp w G0) {d n : Nat} (IH : ∀ e, n = e + 1 → LowSpec w G0 (d + 3) e) : LowSpec w G0 (d + 4) n := by
  intro g a hv nf t D k tk hdp hpn hga hpl
  refine entC (gls := [("tuple", .type "tuple"), ("lower_labels", .ref 228)]) (m := fun L => mLw a L k tk none none) (binds := [("pieces", .ref a), ("depth", .int k tk)]) (ns := ["pieces", "depth", "piece", "part"])
    (T.K 228 o228 (by kernel_rfl)) (show o228.data = .func fd228 from rfl) T.nolim (codeRec_of T.K (by kernel_rfl)) rfl rfl rfl rfl rfl (fun L => by kernel_rfl) (by kernel_rfl) (T.glb (by walk_at "gls")) ?_
  intro c s A Lc r hG hgl he en S
  subst hG
  walk_at "go"
  with_reducible refine iter_list ‹Sn _ _ _ _ _› hga ?_; intro I o s7 S7 hI
  have hvt := hpl.length
  refine for_itr itr_list (LwInv w.params g hv t a Lc k tk D) r.hd .name (.inl rfl) S7 hI (.mk (Da := []) (Db := D) (VSub.refl _) .nil hpl rfl) ?step ?fin
  case step =>
    rintro i v g2 g3 m own news s E' hi hv3 hP hT hI S
    cases hI with | @mk u1 u2 Da Db hvs hpa hpb hD =>
    have hg := hvs.trans hv3
    obtain ⟨nd, hnd⟩ : ∃ nd, t[i]? = some nd := ⟨t[i]'(by walk_at "om"), by simp⟩
    obtain ⟨c0, l, hcl, hll⟩ := hpn.at hnd
    have hd1 := dp_get hnd
    have hpb3 := hpb.up hv3
    rw [drop_get hP, drop_get hnd] at hpb3
    cases hpb3 with | @cons _ _ Di _ _ Db2 hpi hpb2 =>
    cases hpi.open with | @mk x dx kk kn pa f sd D1 hx hrp hf hs hpp back _ =>
    rw [hcl] at hrp
    walk_at "go"
    with_reducible refine k_labels (d := d) ‹Sn _ _ _ _ _› r T hx (by walk_at "led") hrp (Nat.le_trans hll (by decide)) ?_; intro la s8 g8 hv8 hr8 S8
    walk_at "go"
    with_reducible refine r_newTD ‹Sn _ _ _ _ _› (xs := iis []) .nil ?_ (by walk_at "sz"); intro tb s9 g9 hv9 hr9 S9
    with_reducible refine c_ne0 ‹Sn _ _ _ _ _› r (hr8.up hv9) hr9 ?_
    walk_at "go"
    have hv89 := hv8.trans hv9
    have hx9 := hv89 _ _ hx
    refine i_joinS (fun s' => ∃ g' kk' kn' pa', VSub g9 g' ∧ Rd g' (.ref pa') (.tuple (iis (lowP k (c0 :: l)))) ∧ Sn c g' (mLw a Lc k tk (some (.ref x)) u2) (own ++ (Da ++ ((dx, pcO w.params kk' (.ref pa') f sd kn') :: D1 ++ Db2))) s') ?_ ?_
    · with_reducible refine i_b (fun q1 => ?_) (fun q1 => ?_)
      · have q1 : labelsOf (c0 :: l) ≠ [] := by simpa using q1
        walk_at "go"
        with_reducible refine pc_code (d := 0) ‹Sn _ _ _ _ _› T (r.le (by walk_at "le")) hx9 (by walk_at "led") (hrp.up hv89) ?_; intro t0 s10 S10
        walk_at "go"
        with_reducible refine r_newTD ‹Sn _ _ _ _ _› (xs := iis [c0]) (.cons (.int _ _) .nil) ?_ (by walk_at "sz"); intro tc s11 g11 hv11 hr11 S11
        walk_at "go"
        with_reducible refine e_comp (cl := [("depth", Lc + 1)]) (by rw [he]; with_unfolding_all rfl) (by with_unfolding_all rfl) (by kernel_rfl) ?_ (by intro _; with_unfolding_all rfl)
        have hx11 := hv11 _ _ hx9
        walk_at "go"
        with_reducible refine k_labels (d := d) ‹Sn _ _ _ _ _› r T hx11 (by walk_at "led") (hrp.up (hv89.trans hv11)) (Nat.le_trans hll (by decide)) ?_; intro lb s12 g12 hv12 hr12 S12
        obtain ⟨_, lvs, ln, e0, hgl2, hrl⟩ := id hr12.tup_inv
        cases e0
        have hll2 : lvs.length = (labelsOf (c0 :: l)).length := by rw [hrl.length, List.length_map]
        have hl3 : (labelsOf (c0 :: l)).length ≤ 10 := by unfold labelsOf; split <;> simp; walk_at "om"
        with_reducible refine iter_tup S12 hgl2 ?_; intro I2 o2 s13 S13 hI2
        refine comp_itr (own := []) (mc0 := [("label", .loc none), ("depth", .ro (Lc + 1) (.int k tk))]) (gls := []) itr_tup  (fun mc => ∃ u, mc = ([("label", .loc u), ("depth", .ro (Lc + 1) (.int k tk))] : Loc))  (fun i g own vs => own = [] ∧ IntsAre vs (((labelsOf (c0 :: l)).take i).map fun l => if l > k then l - 1 else l) ∧ vs.length = i ∧ i ≤ 10) he ?hok ?gb ?sl ⟨_, rfl⟩ r.hd .name (.inl rfl) S13 (by walk_at "led") hI2 ⟨rfl, .nil, rfl, Nat.zero_le _⟩ ?len ?step2 ?fin2
        case hok => kernel_rfl
        case gb => exact T.glb (by walk_at "gls")
        case sl => exact .loc (by kernel_rfl) (by kernel_rfl) (.ro (by kernel_rfl) (by kernel_rfl) (by kernel_rfl) (.tail _ (.head _)) .nil)
        case len => rintro i g own vs ⟨_, _, hl, hl2⟩; show vs.length < 2 ^ 24; walk_at "om"
        case step2 =>
          intro c' C D i v g0 g mc oi own' vs k' s E' he' hgl' hG' hi2 hv2 hP hT hQ21 hw hQ23 S'
          refine hide5 v mc oi own' vs fun XX hXX => ?_
          obtain ⟨rfl, hia2, hll, hlk⟩ := hQ21
          obtain ⟨u, rfl⟩ := hQ23
          obtain ⟨xd, hxd, hrxd⟩ := hrl.get hP
          rw [List.getElem?_map] at hxd
          obtain ⟨lab, hlab, rfl⟩ := Option.map_eq_some_iff.mp hxd
          obtain ⟨lt, rfl⟩ := hrxd.int_inv
          have hil := (List.getElem?_eq_some_iff.mp hlab).1
          refine hXX _ _ _ _ _ ?_
          clear hXX
          walk_at "go"
          with_reducible refine i_dec (fun h3 => ?_) (fun h3 => ?_)
          all_goals
            walk_at "go"
            refine comp_next (g' := g) (VSub.refl _) ⟨_, rfl⟩ ⟨rfl, ?_, by simp [hll], by walk_at "om"⟩ rfl (by assumption)
            rw [take_succ_get hlab, List.map_append]
            simp only [List.map_cons, List.map_nil, gt_iff_lt, h3, if_true, if_false]
            exact ints_snoc' hia2
        case fin2 =>
          intro D g13 own2 vs2 k2 s14 hD2 hv13 hQ8 hw2 S14
          refine hide2 own2 vs2 fun XX hXX => ?_
          obtain ⟨rfl, hia2, hll4, hlk⟩ := hQ8
          simp only [List.nil_append] at S14
          rw [hll2, List.take_length] at hia2
          refine hXX _ _ ?_
          clear hXX
          walk_at "go"
          with_reducible refine r_tupL S14 (Sn.at S14 (by walk_at "led")) ?_ (by simp only [sizeLine]; walk_at "om"); intro td s15 htd S15
          have hr13 := hr11.up (hv12.trans hv13)
          obtain ⟨_, cvs, cn, e0, hgc, hrc⟩ := id hr13.tup_inv
          cases e0
          have hcl1 : cvs.length = 1 := hrc.length
          with_reducible refine b_addT S15 (Sn.see S15 hgc) (Sn.at S15 (by walk_at "led")) ?_ ?_ ?_ (bnd_a hcl1 (hll4.trans hll2) hl3)
          · intro e; rw [e] at hcl1; cases hcl1
          · intro e
            rw [e] at hia2
            cases hl5 : labelsOf (c0 :: l) with
            | nil => exact q1 hl5
            | cons _ _ => rw [hl5] at hia2; cases hia2
          intro te s16 hte S16
          refine Sn.lockK S16 (by walk_at "led") hte fun g17 hv17 hg17 S17 => ?_
          have S18 := S17.drop (news' := own ++ (Da ++ ((dx, pcO w.params kk (.ref pa) f sd kn) :: D1 ++ Db2))) (List.Sublist.cons _ (List.Sublist.cons _ (List.Sublist.refl _)))
          have hx17 := ((hv12.trans hv13).trans hv17) _ _ hx11
          clear S17 S16 S15 S14
          walk_at "go"
          refine ⟨rfl, g17, kk, kn, te, ((hv11.trans hv12).trans hv13).trans hv17, ?_, ‹Sn _ _ _ _ _›⟩
          have e : lowP k (c0 :: l) = [c0] ++ (labelsOf (c0 :: l)).map fun l => if l > k then l - 1 else l := by unfold lowP; rw [if_neg q1]; rfl
          rw [e, iis, List.map_append]
          exact .tup hg17 ((hrc.append (rd_ints hia2)).up hv17)
      · have q1 : labelsOf (c0 :: l) = [] := by simpa using q1
        walk_at "go"
        refine ⟨rfl, g9, kk, kn, pa, VSub.refl _, ?_, ‹Sn _ _ _ _ _›⟩
        have e : lowP k (c0 :: l) = c0 :: l := by unfold lowP; rw [if_pos q1]
        rw [e]; exact hrp.up hv89
    rintro s20 ⟨g20, kk', kn', pa', hv20, hr20, S20⟩
    have hv320 := hv89.trans hv20
    have hx20 := hv320 _ _ hx
    walk_at "go"
    with_reducible refine k_parts (d := d) ‹Sn _ _ _ _ _› (r.le (by walk_at "le")) T hx20 (by walk_at "led") hf hs ?_; intro pl kp s21 g21 hv21 hg21 S21
    have S21 := S21.perm (news' := ((dx, pcO w.params kk' (.ref pa') f sd kn') :: (own ++ (Da ++ Db2))) ++ ([] ++ D1)) (by
      refine perm_c fun x => ?_
      simp +arith only [List.count_append, List.count_cons, List.count_nil])
    with_reducible refine iter_list S21 hg21 ?_; intro I2 o2 s22 S22 hI2
    have hpl2 := hpp.length
    have hv321 := hv320.trans hv21
    refine for_itr itr_list (LwInv2 w.params g21 (partsL f sd) (partsN nd) a Lc (.ref x) k tk ((dx, pcO w.params kk' (.ref pa') f sd kn') :: (own ++ (Da ++ Db2))) D1) r.hd .name (.inl rfl) S22 hI2 (.mk (Da := []) (Db := D1) (VSub.refl _) .nil (hpp.up hv321) rfl) ?step2 ?fin2
    case step2 =>
      rintro j v2 g10 g11 m2 own2 news2 s11 E2 hj hv11 hP2 hT2 hJ S11
      cases hJ with | @mk u3 Da2 Dy hvs2 hqa hqb hqD =>
      obtain ⟨f2, hf2⟩ : ∃ f2, (partsN nd)[j]? = some f2 := ⟨(partsN nd)[j]'(by walk_at "om"), by simp⟩
      have hd2 := dp_part hf2
      obtain ⟨e, rfl⟩ : ∃ e, n = e + 1 := ⟨n - 1, by walk_at "om"⟩
      have hqb3 := hqb.up hv11
      rw [drop_get hP2, drop_get hf2] at hqb3
      cases hqb3 with | @cons a2 hv2 nf2 _ Di2 _ _ Db3 hg2 hpl3 hqb4 =>
      walk_at "go"
      with_reducible refine r_callP (own := Di2) (rest := own2 ++ ((dx, pcO w.params kk' (.ref pa') f sd kn') :: ((own ++ (Da ++ Db2)) ++ (Da2 ++ Db3)))) ‹Sn _ _ _ _ _› r ?_ (IH e rfl g11 a2 hv2 nf2 f2 Di2 (k + 1) _ (by walk_at "om") (hpn.part hnd hf2) hg2 hpl3) ?_
      · refine perm_c fun x => ?_
        simp +arith only [List.count_append, List.count_cons]
      rintro v12 s12 g12 own12 S12 hv12 hw12 ⟨rfl, hpl12⟩
      have S12 := S12.perm (news' := own2 ++ (((dx, pcO w.params kk' (.ref pa') f sd kn') :: (own ++ (Da ++ Db2))) ++ ((Da2 ++ (own12 ++ [])) ++ Db3))) (by
        refine perm_c fun x => ?_
        simp +arith only [List.count_append, List.count_cons, List.count_nil])
      walk_at "go"
      refine loop_next (g' := g12) hv12 (.mk ((hvs2.trans hv11).trans hv12) ?_ (hqb4.up hv12) (map_mid hqD hw12)) ‹Sn _ _ _ _ _›
      rw [take_succ_get hP2, take_succ_get hf2, List.map_append]
      exact (hqa.up (hv11.trans hv12)).app (.cons (hv12 _ _ hg2) hpl12 .nil)
    case fin2 =>
      rintro g10 m2 news2 s11 hJ S11
      cases hJ with | @mk u3 Da2 Dy hvs2 hqa hqb hqD =>
      rw [List.take_length, hpl2, List.take_length] at hqa
      rw [List.drop_length, hpl2, List.drop_length] at hqb
      cases hqb
      have hvf := hv321.trans hvs2
      have hpn2 := back g10 kk' pa' kn' _ _ Da2 (hvf _ _ hx) (hr20.up (hv21.trans hvs2)) hqa
      rw [← hcl, ← lowN_eq] at hpn2
      have S11 := S11.perm (news' := own ++ ((Da ++ (((dx, pcO w.params kk' (.ref pa') f sd kn') :: Da2) ++ [])) ++ Db2)) (by
        refine perm_c fun x => ?_
        simp +arith only [List.count_append, List.count_cons, List.count_nil])
      walk_at "go"
      refine loop_next (g' := g10) hvf (.mk (hg.trans hvf) ?_ (hpb2.up hvf) (map_mid hD ?_)) ‹Sn _ _ _ _ _›
      · rw [take_succ_get hP, take_succ_get hnd, lowT_app]
        exact (hpa.up (hv3.trans hvf)).app (.cons hpn2 .nil)
      · rw [List.append_nil] at hqD
        simp only [List.map_cons, hqD]
  case fin =>
    rintro g2 m news s hI S
    cases hI with | @mk u1 u2 Da Db hvs hpa hpb hD =>
    rw [List.take_length, hvt, List.take_length] at hpa
    rw [List.drop_length, hvt, List.drop_length] at hpb
    cases hpb
    walk_at "go"
    rw [List.append_nil] at hD
    exact r_endP ‹Sn _ _ _ _ _› en (own := Da) (rest := []) (List.Perm.refl _) hD ⟨rfl, hpa⟩


-- F18a
theorem low_all {w : World} {G0 : Heap} (T : Tp w G0) : ∀ n : Nat, LowSpec w G0 (n + 4) n
  | 0 => sp_lower1 (d := 0) T fun e h => by cases h
  | n + 1 => sp_lower1 (d := n + 1) T fun e h => by cases h; exact low_all T n
noncomputable abbrev arE (P : Params) (k : Tok × Tok) (kv fv : Value) : List DictEntry := [dE P (Str.ofString "kinds") k.1 kv, dE P (Str.ofString "funcs") k.2 fv]
inductive ArAt (P : Params) (g : Vis) (ks : Kinds) (fs : List Int) : Addr → Prop
  | mk {x dx k ka fa n} : g x = some (instObj 280 dx) → g dx = some (dictOf (arE P k (.ref ka) (.ref fa)) n) → Rd g (.ref ka) (.list (kindsD ks)) → Rd g (.ref fa) (.list (iis fs)) → ArAt P g ks fs x
theorem ArAt.up {P : Params} {g g' : Vis} {ks : Kinds} {fs : List Int} {x : Addr} (h : VSub g g') (H : ArAt P g ks fs x) : ArAt P g' ks fs x := by
  cases H with | mk a b c d => exact .mk (h _ _ a) (h _ _ b) (c.up h) (d.up h)
theorem f_kinds (P : Params) : fldB (KK P) 280 "kinds" = true := by kernel_rfl
theorem f_funcs (P : Params) : fldB (KK P) 280 "funcs" = true := by kernel_rfl
section
variable {w : World} {A : Around} {E : Value → Shared → Prop} {s : Shared} {c : Cx} {g : Vis} {m : Loc} {news : Led} {d : Nat} {ks : Kinds} {fs : List Int} {x : Addr}
theorem ar_kinds {ex : Bool} {Q : Value → Shared → Prop} (S : Sn c g m news s) (T : Tp w c.G0) (H : ArAt w.params g ks fs x) (h : ∀ ka s', Rd g (.ref ka) (.list (kindsD ks)) → Sn c g m news s' → Q (.ref ka) s') : wpAny (model pw w) A (getAttr (.ref x) (Str.ofString "kinds") ex) Q E s := by
  cases H with | mk a b c d => exact o_getG S T a b (cls280 _) (f_kinds _) (by kernel_rfl) rfl fun s' => h _ s' c
theorem ar_funcs {ex : Bool} {Q : Value → Shared → Prop} (S : Sn c g m news s) (T : Tp w c.G0) (H : ArAt w.params g ks fs x) (h : ∀ fa s', Rd g (.ref fa) (.list (iis fs)) → Sn c g m news s' → Q (.ref fa) s') : wpAny (model pw w) A (getAttr (.ref x) (Str.ofString "funcs") ex) Q E s := by
  cases H with | mk a b c d => exact o_getG S T a b (cls280 _) (f_funcs _) (by kernel_rfl) rfl fun s' => h _ s' d
theorem am_of_kind {pl : Sem Bool} {Q : Value × List Value → Shared → Prop} (S : Sn c g m news s) (T : Tp w c.G0) (H : ArAt w.params g ks fs x) (h : Q (.ref 249, [.ref x]) s) : wpAny (model pw w) A (getMethod (.ref x) (Str.ofString "of_kind") pl) Q E s := by
  cases H with | mk a b _ _ => exact o_methG S T a b (cls280 _) (by kernel_rfl) (by kernel_rfl) (by kernel_rfl) h
theorem am_of_block {pl : Sem Bool} {Q : Value × List Value → Shared → Prop} (S : Sn c g m news s) (T : Tp w c.G0) (H : ArAt w.params g ks fs x) (h : Q (.ref 256, [.ref x]) s) : wpAny (model pw w) A (getMethod (.ref x) (Str.ofString "of_block") pl) Q E s := by
  cases H with | mk a b _ _ => exact o_methG S T a b (cls280 _) (by kernel_rfl) (by kernel_rfl) (by kernel_rfl) h
theorem am_of {pl : Sem Bool} {Q : Value × List Value → Shared → Prop} (S : Sn c g m news s) (T : Tp w c.G0) (H : ArAt w.params g ks fs x) (h : Q (.ref 263, [.ref x]) s) : wpAny (model pw w) A (getMethod (.ref x) (Str.ofString "of") pl) Q E s := by
  cases H with | mk a b _ _ => exact o_methG S T a b (cls280 _) (by kernel_rfl) (by kernel_rfl) (by kernel_rfl) h
theorem am_behind {pl : Sem Bool} {Q : Value × List Value → Shared → Prop} (S : Sn c g m news s) (T : Tp w c.G0) (H : ArAt w.params g ks fs x) (h : Q (.ref 270, [.ref x]) s) : wpAny (model pw w) A (getMethod (.ref x) (Str.ofString "behind") pl) Q E s := by
  cases H with | mk a b _ _ => exact o_methG S T a b (cls280 _) (by kernel_rfl) (by kernel_rfl) (by kernel_rfl) h
theorem am_behind_all {pl : Sem Bool} {Q : Value × List Value → Shared → Prop} (S : Sn c g m news s) (T : Tp w c.G0) (H : ArAt w.params g ks fs x) (h : Q (.ref 277, [.ref x]) s) : wpAny (model pw w) A (getMethod (.ref x) (Str.ofString "behind_all") pl) Q E s := by
  cases H with | mk a b _ _ => exact o_methG S T a b (cls280 _) (by kernel_rfl) (by kernel_rfl) (by kernel_rfl) h
/-- (a, b) = pair : of a tuple of two -/
theorem a_pair {elts : List Expr} {k : Nat} {pos : Pos} {a : Addr} {x y : PyData} {Q : Unit → Shared → Prop} (S : Sn c g m news s) (hh : A.handled = none) (hr : Rd g (.ref a) (.tuple [x, y])) (hn : (assignEach elts c.env).length = 2) (hstar : (assignEach elts c.env).findIdx? (·.1) = none)
    (h : ∀ u v s', Rd g u x → Rd g v y → Sn c g m news s' → wpAny (model pw w) A (assignInOrder ((assignEach elts c.env).map (·.2)) [u, v]) Q E s') : wpAny (model pw w) A (assign (.Tuple elts k pos) c.env (.ref a)) Q E s := by
  obtain ⟨_, vs, n, e, hg, hv⟩ := hr.tup_inv
  cases e
  cases hv with | cons r1 hv =>
  cases hv with | cons r2 hv =>
  cases hv
  exact a_tup S hh (S.see hg) hn hstar fun s' S' => h _ _ s' r1 r2 S'
theorem c_intB {b : Bool} {Q : Value → Shared → Prop} (S : Sn c g m news s) (h : ∀ t s', Sn c g m news s' → Q (.int (if b then 1 else 0) t) s') : wpAny (model pw w) A (call (.type "int") [.bool b]) Q E s :=
  call_int_bool (h _ _ S.tick)
end


-- F18
theorem klen_get {ks : Kinds} {k : Nat} (h : k < ks.length) : ∃ kd, ks[k]? = some kd ∧ klen ks k = ((kd.1.length : Int), (kd.2.length : Int)) ∧ (kindsD ks)[k]? = some (.tuple [.tuple (iis kd.1), .tuple (iis kd.2)]) := by
  refine ⟨ks[k], by simp [h], ?_, by simp [h]⟩
  simp [klen, h]
theorem sp_of_kind {w : World} {G0 : Heap} (T : Tp w G0) {d : Nat} {g : Vis} {x : Addr} {ks : Kinds} {fs : List Int} {k : Nat} {tk : Tok} (hC : CtxOk ks fs) (hx : ArAt w.params g ks fs x) (hk : k < 3) :
    Ct pw w G0 (d + 1) (.ref 249) [.ref x, .int (k : Int) tk] g [] (PData (.tuple (iis [(klen ks k).1, (klen ks k).2]))) := by
  refine ent (gls := [("len", .builtin "len")]) (m := [("self", .loc (some (.ref x))), ("index", .loc (some (.int (k : Int) tk))), ("params", .loc none), ("results", .loc none)]) (binds := [("self", .ref x), ("index", .int (k : Int) tk)]) (rest := ["params", "results"]) (T.K 249 o249 (by kernel_rfl)) (show o249.data = .func fd249 from rfl) T.nolim (codeRec_of T.K (by kernel_rfl)) rfl rfl rfl (fun _ _ => BindsTo.of_eq rfl) rfl (by kernel_rfl) (T.glb (by walk_at "gls")) ?_
  intro c s A r hG hgl he en S
  subst hG
  obtain ⟨kd, hkd, hkl, hkD⟩ := klen_get (ks := ks) (k := k) (by rw [hC.k3]; exact hk)
  have hln := hC.kl kd (List.mem_of_getElem? hkd)
  walk_at "go"
  with_reducible refine s_lstD ‹Sn _ _ _ _ _› (by assumption) (k := k) hkD (by walk_at "om") ?_ (by with_unfolding_all rfl); intro v1 hrv1
  obtain ⟨ka, rfl⟩ := hrv1.tup_ref
  with_reducible refine a_pair ‹Sn _ _ _ _ _› r.hd hrv1 (by with_unfolding_all rfl) (by with_unfolding_all rfl) ?_; intro u1 u2 s5 hu1 hu2 S5
  obtain ⟨kb, rfl⟩ := hu1.tup_ref
  obtain ⟨kc, rfl⟩ := hu2.tup_ref
  walk_at "go"
  with_reducible refine r_lenTD ‹Sn _ _ _ _ _› hu1 (by simp only [List.length_map, sizeLine]; walk_at "om") ?_; intro t5 s12 S12
  walk_at "go"
  with_reducible refine r_lenTD ‹Sn _ _ _ _ _› hu2 (by simp only [List.length_map, sizeLine]; walk_at "om") ?_; intro t6 s13 S13
  walk_at "go"
  with_reducible refine r_newTD ‹Sn _ _ _ _ _› (xs := iis [((iis kd.1).length : Int), ((iis kd.2).length : Int)]) (.cons (.int _ _) (.cons (.int _ _) .nil)) ?_ (by walk_at "sz"); intro tb s14 g14 hv14 hr14 S14
  walk_at "go"
  refine r_leave ‹Sn _ _ _ _ _› en (own := []) (by walk_at "led") rfl ?_
  rw [hkl]; simpa only [List.length_map] using hr14
theorem sp_of_block {w : World} {G0 : Heap} (T : Tp w G0) {d : Nat} {g : Vis} {x : Addr} {ks : Kinds} {fs : List Int} {a : Int} {tk : Tok} (hC : CtxOk ks fs) (hx : ArAt w.params g ks fs x) (ha : KindOk a) :
    Ct pw w G0 (d + 2) (.ref 256) [.ref x, .int a tk] g [] (PData (.tuple (iis (if a < 0 then [0, if a = -64 then 0 else 1] else [(klen ks a).1, (klen ks a).2])))) := by
  refine ent (gls := [("EMPTY", .int (-64) 204)]) (m := [("self", .loc (some (.ref x))), ("about", .loc (some (.int a tk)))]) (binds := [("self", .ref x), ("about", .int a tk)]) (rest := []) (T.K 256 o256 (by kernel_rfl)) (show o256.data = .func fd256 from rfl) T.nolim (codeRec_of T.K (by kernel_rfl)) rfl rfl rfl (fun _ _ => BindsTo.of_eq rfl) rfl (by kernel_rfl) (T.glb (by walk_at "gls")) ?_
  intro c s A r hG hgl he en S
  subst hG
  walk_at "go"
  with_reducible refine i_b (fun q1 => ?_) (fun q1 => ?_)
  · obtain rfl : a = -64 := by simpa using q1
    walk_at "go"
    with_reducible refine r_newTD ‹Sn _ _ _ _ _› (xs := iis [0, 0]) (.cons (.int _ _) (.cons (.int _ _) .nil)) ?_ (by walk_at "sz"); intro tb s14 g14 hv14 hr14 S14
    walk_at "go"
    exact r_leave ‹Sn _ _ _ _ _› en (own := []) (by walk_at "led") rfl hr14
  · have q1 : a ≠ -64 := by simpa using q1
    walk_at "go"
    with_reducible refine i_dec (fun q2 => ?_) (fun q2 => ?_)
    · walk_at "go"
      with_reducible refine r_newTD ‹Sn _ _ _ _ _› (xs := iis [0, 1]) (.cons (.int _ _) (.cons (.int _ _) .nil)) ?_ (by walk_at "sz"); intro tb s14 g14 hv14 hr14 S14
      walk_at "go"
      refine r_leave ‹Sn _ _ _ _ _› en (own := []) (by walk_at "led") rfl ?_
      rw [if_pos q2, if_neg q1]; exact hr14
    · obtain ⟨k, rfl⟩ : ∃ k : Nat, a = k := ⟨a.toNat, by walk_at "om"⟩
      have hk : k < 3 := by rcases ha with h | h | h | h | h | h <;> walk_at "om"
      walk_at "go"
      with_reducible refine r_call0 ‹Sn _ _ _ _ _› r (sp_of_kind (d := d) T hC hx hk) ?_
      intro v7 s7 g7 S7 hv7 hr7
      refine r_leave S7 en (own := []) (by walk_at "led") rfl ?_
      rw [if_neg q2]; exact hr7
noncomputable def l138 : List (Int × Tok × Value) := [(13, 226, .ref 139), (26, 240, .ref 140), (27, 242, .ref 141), (28, 244, .ref 142), (32, 246, .ref 143), (33, 248, .ref 144), (34, 250, .ref 145), (35, 252, .ref 146), (36, 254, .ref 147), (37, 256, .ref 148), (38, 258, .ref 149), (208, 268, .ref 150), (209, 270, .ref 151), (64527, 288, .ref 152), (64529, 292, .ref 153)]
noncomputable def cntL : List (Int × List Int) := [(13, [1, 0]), (26, [1, 0]), (27, [3, 1]), (28, [3, 1]), (32, [0, 1]), (33, [1, 0]), (34, [1, 1]), (35, [0, 1]), (36, [1, 0]), (37, [1, 1]), (38, [2, 0]), (208, [0, 1]), (209, [1, 1]), (64527, [2, 1]), (64529, [3, 0])]
noncomputable def cntD : List (Int × PyData) := cntL.map fun x => (x.1, .tuple (iis x.2))
theorem o138_eq (P : Params) : o138 P = intDictO l138 15 := rfl
theorem d138 (w : World) : (o138 w.params).IsDictOf (intKind pw w) (l138.map fun x => (x.1, x.2.2)) := by rw [o138_eq]; exact intDict (by decide +kernel) (by decide +kernel)
noncomputable def ofL (c : Int) : Option (List Int) := match cntL.find? (fun x => x.1 == c) with
  | some x => some x.2
  | none => (stackOf c).map fun p => [(p.1.length : Int), (p.2.length : Int)]
theorem of_span : spansL.all (fun l => match l with
    | [f, t, _, _, _] => (List.range (t - f + 1).toNat).all fun i => decide (((spansL.filter (inSpan (f + i))).map pairOf).head? = ofL (f + i))
    | _ => true) = true := by decide +kernel
theorem of_eq {c : Int} {y : List Int} (hy : y ∈ spansL) (hi : inSpan c y = true) : ((spansL.filter (inSpan c)).map pairOf).head? = ofL c := by
  have h := List.all_eq_true.mp of_span y hy
  obtain ⟨f, t, a, b, n, rfl⟩ := spans5 y hy
  have h1 : f ≤ c ∧ c ≤ t := by simpa [inSpan] using hi
  have := List.all_eq_true.mp h (c - f).toNat (List.mem_range.mpr (by walk_at "om"))
  have e : f + ((c - f).toNat : Int) = c := by walk_at "om"
  rw [e] at this
  exact of_decide_eq_true this
theorem find_cnt (x : Int) : cntD.find? (fun d => d.1 == x) = (cntL.find? (fun d => d.1 == x)).map fun d => (d.1, .tuple (iis d.2)) := by unfold cntD; rw [List.find?_map]; rfl
theorem cnt_two : ∀ y ∈ cntL, ∃ a b, y.2 = [a, b] := by
  have : cntL.all (fun y => y.2.length == 2) = true := by decide
  intro y hy
  have h := List.all_eq_true.mp this y hy
  match e : y.2, h with
  | [a, b], _ => exact ⟨a, b, rfl⟩
theorem stack_small {c : Int} {p : List Int × List Int} (h : stackOf c = some p) : p.1.length ≤ 10 ∧ p.2.length ≤ 10 := by
  unfold stackOf at h
  split at h
  · rename_i y e
    cases h
    have : fixL.all (fun x => decide (x.2.1.length ≤ 10 ∧ x.2.2.length ≤ 10)) = true := by decide
    exact of_decide_eq_true (List.all_eq_true.mp this y (List.mem_of_find?_eq_some e))
  · split at h
    · cases h; simp
    · split at h
      · cases h; simp
      · unfold numKind at h
        obtain ⟨y, e, rfl⟩ := Option.map_eq_some_iff.mp h
        have : numL.all (fun x => decide (x.2.2.1.length ≤ 10 ∧ x.2.2.2.length ≤ 10)) = true := by decide
        exact of_decide_eq_true (List.all_eq_true.mp this y (List.mem_of_find?_eq_some e))
set_option maxHeartbeats 1000000 in
theorem sp_of {w : World} {G0 : Heap} (T : Tp w G0) {d : Nat} {g : Vis} {x pv : Addr} {ks : Kinds} {fs : List Int} {x0 a b : Int} {l : List Int} (hC : CtxOk ks fs) (hx : ArAt w.params g ks fs x) (hp : LeafOk fs.length (x0 :: l)) (hr : Rd g (.ref pv) (.tuple (iis (x0 :: l)))) (hc : countsL ks fs (x0 :: l) = some (a, b)) :
    Ct pw w G0 (d + 3) (.ref 263) [.ref x, .ref pv] g [] (PData (.tuple (iis [a, b]))) := by
  refine ent (gls := [("CALL", .int 16 232), ("CALL_INDIRECT", .int 17 234), ("COUNTS", .ref 138), ("stack_of", .ref 136), ("len", .builtin "len")]) (m := [("self", .loc (some (.ref x))), ("plain", .loc (some (.ref pv))), ("takes", .loc none), ("puts", .loc none)]) (binds := [("self", .ref x), ("plain", .ref pv)]) (rest := ["takes", "puts"]) (T.K 263 o263 (by kernel_rfl)) (show o263.data = .func fd263 from rfl) T.nolim (codeRec_of T.K (by kernel_rfl)) rfl rfl rfl (fun _ _ => BindsTo.of_eq rfl) rfl (by kernel_rfl) (T.glb (by walk_at "gls")) ?_
  intro c s A r hG hgl he en S
  subst hG
  have hp' : PlOk fs.length (x0 :: l) := .inl hp
  walk_at "go"
  with_reducible refine s_tup0 ‹Sn _ _ _ _ _› hr ?_ (by with_unfolding_all rfl); intro t2
  walk_at "go"
  with_reducible refine i_b (fun q1 => ?_) (fun q1 => ?_)
  · obtain rfl : x0 = 16 := by simpa using q1
    obtain ⟨f, rfl, f0, fn⟩ := pl_16 hp'
    obtain ⟨fk, rfl⟩ : ∃ k : Nat, f = k := ⟨f.toNat, by walk_at "om"⟩
    have hlt : fk < fs.length := by walk_at "om"
    have hfk := hC.fk _ (List.getElem_mem hlt)
    obtain ⟨kk, hkk⟩ : ∃ k : Nat, fs[fk] = k := ⟨(fs[fk]).toNat, by walk_at "om"⟩
    walk_at "go"
    with_reducible refine s_tup1 ‹Sn _ _ _ _ _› hr ?_ (by with_unfolding_all rfl); intro t3
    have hfd : (iis fs)[fk]? = some (.int (kk : Int)) := by simp [hlt, hkk]
    with_reducible refine s_lstD ‹Sn _ _ _ _ _› (by assumption) (k := fk) hfd (by have := hC.f5; walk_at "om") ?_ (by with_unfolding_all rfl); intro v1 hrv1
    obtain ⟨t9, rfl⟩ := hrv1.int_inv
    walk_at "go"
    with_reducible refine r_call0 ‹Sn _ _ _ _ _› r (sp_of_kind (d := d + 1) T hC hx (by walk_at "om")) ?_
    intro v7 s7 g7 S7 hv7 hr7
    walk_at "go"
    refine r_leave S7 en (own := []) (by walk_at "led") rfl ?_
    have e : (a, b) = ((klen ks kk).1, (klen ks kk).2) := by
      simp [countsL, hlt, hkk] at hc
      rw [← hc.1, ← hc.2]
    obtain ⟨rfl, rfl⟩ := Prod.mk.inj e
    exact hr7
  have q1 : x0 ≠ 16 := by simpa using q1
  walk_at "go"
  with_reducible refine s_tup0 ‹Sn _ _ _ _ _› hr ?_ (by with_unfolding_all rfl); intro t4
  walk_at "go"
  with_reducible refine i_b (fun q2 => ?_) (fun q2 => ?_)
  · obtain rfl : x0 = 17 := by simpa using q2
    obtain ⟨f, f2, rfl, f0, fn⟩ := pl_17 hp'
    obtain ⟨kk, rfl⟩ : ∃ k : Nat, f = k := ⟨f.toNat, by walk_at "om"⟩
    walk_at "go"
    with_reducible refine s_tup1 ‹Sn _ _ _ _ _› hr ?_ (by with_unfolding_all rfl); intro t3
    walk_at "go"
    with_reducible refine r_call0T ‹Sn _ _ _ _ _› r (sp_of_kind (d := d + 1) T hC hx (by walk_at "om")) ?_
    intro vrv7 _ _ s7 g7 S7 hv7 hr7 _ _
    have hr8 : Rd g7 _ (.tuple [.int (klen ks kk).1, .int (klen ks kk).2]) := hr7
    with_reducible refine a_pair S7 r.hd hr8 (by with_unfolding_all rfl) (by with_unfolding_all rfl) ?_; intro u1 u2 s8 hu1 hu2 S8
    obtain ⟨t5, rfl⟩ := hu1.int_inv
    obtain ⟨t6, rfl⟩ := hu2.int_inv
    walk_at "go"
    with_reducible refine r_newTD ‹Sn _ _ _ _ _› (xs := iis [(klen ks kk).1 + 1, (klen ks kk).2]) (.cons (.int _ _) (.cons (.int _ _) .nil)) ?_ (by walk_at "sz"); intro tb s14 g14 hv14 hr14 S14
    walk_at "go"
    refine r_leave ‹Sn _ _ _ _ _› en (own := []) (by walk_at "led") rfl ?_
    have e : (a, b) = ((klen ks kk).1 + 1, (klen ks kk).2) := by
      simp [countsL] at hc
      rw [← hc.1, ← hc.2, show (klen ks kk).1 + 17 - 16 = (klen ks kk).1 + 1 by walk_at "om"]
    obtain ⟨rfl, rfl⟩ := Prod.mk.inj e
    exact hr14
  have q2 : x0 ≠ 17 := by simpa using q2
  have hof : ofL x0 = some [a, b] := by
    have h1 : x0 ∉ ([0, 12, 14, 15, 18, 19] : List Int) := fun q => by simp only [countsL, if_pos q] at hc; cases hc
    have h2 : x0 ∉ ([2, 3, 4] : List Int) := by have := (leaf_head hp).1; simpa using this
    have h3 : x0 ∉ ([16, 17] : List Int) := by simp [q1, q2]
    simp only [countsL, if_neg h1, if_neg h2, if_neg h3] at hc
    obtain ⟨y, hy, hin⟩ : ∃ y ∈ spansL, inSpan x0 y = true := by
      obtain ⟨a', b', hh⟩ := pl_else hp' h1 h2 h3
      cases e : spansL.filter (inSpan x0) with
      | nil => rw [e] at hh; cases hh
      | cons z r =>
        have hz : z ∈ spansL.filter (inSpan x0) := by rw [e]; exact .head _
        exact ⟨z, (List.mem_filter.mp hz).1, (List.mem_filter.mp hz).2⟩
    rw [of_eq hy hin] at hc
    split at hc
    · rename_i e; cases hc; exact e
    · cases hc
  have e138 : c.G0.get? 138 = some (o138 w.params) := T.K 138 _ (by kernel_rfl)
  have hgK : ∀ a o, (KK w.params).lookup a = some o → g a = some o := fun a o e => by have := S.st.gg a o (T.K a o e); have q := en.g₀; simp only [Cx.fx] at this; rwa [q] at this
  have r138 : RdAll g ((l138.map fun x => (x.1, x.2.2)).map (·.2)) (cntD.map (·.2)) := readsK_ok hgK 60 _ _ (by kernel_rfl)
  walk_at "go"
  with_reducible refine s_tup0 ‹Sn _ _ _ _ _› hr ?_ (by with_unfolding_all rfl); intro t5
  walk_at "go"
  with_reducible refine c_inD ‹Sn _ _ _ _ _› (Sn.top ‹Sn _ _ _ _ _› e138) (d138 w) (by decide) ?_; intro s1 S1
  walk_at "go"
  rcases valueAt_rd (by decide +kernel) r138 x0 with ⟨hn, hf⟩ | ⟨v, dd, hv, hf, hrv⟩
  rotate_left
  · rw [hv]
    with_reducible refine i_yes rfl ?_
    walk_at "go"
    with_reducible refine s_tup0 ‹Sn _ _ _ _ _› hr ?_ (by with_unfolding_all rfl); intro t6
    with_reducible refine s_dictI ‹Sn _ _ _ _ _› (Sn.top ‹Sn _ _ _ _ _› e138) (d138 w) hv ?_ (by with_unfolding_all rfl); intro s2 S2
    walk_at "go"
    rw [find_cnt] at hf
    obtain ⟨y, hy, hy2⟩ := Option.map_eq_some_iff.mp hf
    cases hy2
    refine r_leave ‹Sn _ _ _ _ _› en (own := []) (by walk_at "led") rfl ?_
    have e : y.2 = [a, b] := by unfold ofL at hof; rw [hy] at hof; exact Option.some.inj hof
    rw [e] at hrv; exact hrv
  · have f1 : cntL.find? (fun d => d.1 == x0) = none := by rw [find_cnt] at hf; simpa using hf
    rw [hn]
    with_reducible refine i_no rfl ?_
    walk_at "go"
    with_reducible refine s_tup0 ‹Sn _ _ _ _ _› hr ?_ (by with_unfolding_all rfl); intro t6
    walk_at "go"
    with_reducible refine r_call0 ‹Sn _ _ _ _ _› (r.le (by walk_at "le")) (sp_stack (d := 0) T) ?_
    intro v7 s7 g7 S7 hv7 hr7
    unfold ofL at hof
    rw [f1] at hof
    obtain ⟨⟨pa, pb⟩, h1, h2⟩ := Option.map_eq_some_iff.mp hof
    rw [h1] at hr7
    obtain ⟨_, rfl⟩ := (show Rd g7 v7 _ from hr7).tup_ref
    have hsz : pa.length ≤ 10 ∧ pb.length ≤ 10 := stack_small h1
    have hr8 : Rd g7 _ (.tuple [.tuple (iis pa), .tuple (iis pb)]) := hr7
    with_reducible refine a_pair S7 r.hd hr8 (by with_unfolding_all rfl) (by with_unfolding_all rfl) ?_; intro u1 u2 s8 hu1 hu2 S8
    obtain ⟨kb, rfl⟩ := hu1.tup_ref
    obtain ⟨kc, rfl⟩ := hu2.tup_ref
    walk_at "go"
    with_reducible refine r_lenTD ‹Sn _ _ _ _ _› hu1 (by simp only [List.length_map, sizeLine]; walk_at "om") ?_; intro t7 s12 S12
    walk_at "go"
    with_reducible refine r_lenTD ‹Sn _ _ _ _ _› hu2 (by simp only [List.length_map, sizeLine]; walk_at "om") ?_; intro t8 s13 S13
    walk_at "go"
    with_reducible refine r_newTD ‹Sn _ _ _ _ _› (xs := iis [((iis pa).length : Int), ((iis pb).length : Int)]) (.cons (.int _ _) (.cons (.int _ _) .nil)) ?_ (by walk_at "sz"); intro tb s14 g14 hv14 hr14 S14
    walk_at "go"
    refine r_leave ‹Sn _ _ _ _ _› en (own := []) (by walk_at "led") rfl ?_
    rw [← h2]; simpa only [List.length_map] using hr14


-- F19
noncomputable def intD : Option Int → PyData
  | none => .none
  | some i => .int i
noncomputable def behN (ks : Kinds) (fs : List Int) (nd : Nd) (h : Int) : Option Int := (countsL ks fs (ndP nd)).map fun p => h - p.1 + p.2
noncomputable def behT (ks : Kinds) (fs : List Int) : List Nd → Int → Option Int
  | [], h => some h
  | n :: r, h => (behN ks fs n h).bind (behT ks fs r)
theorem node_pl {nf : Int} {d : Nat} {nd : Nd} (h : NodeOk nf d nd) : PlOk nf (ndP nd) := by
  cases nd with
  | leaf p => unfold NodeOk at h; exact .inl h
  | one p f =>
    cases d with
    | zero => unfold NodeOk at h; exact h.elim
    | succ d => unfold NodeOk at h; exact .inr h.1
  | two p f s =>
    cases d with
    | zero => unfold NodeOk at h; exact h.elim
    | succ d => unfold NodeOk at h; obtain ⟨⟨a, e, k⟩, _⟩ := h; exact .inr ⟨4, a, e, .inr (.inr rfl), k⟩
theorem counts_some {ks : Kinds} {fs : List Int} {nf : Int} {c : Int} {l : List Int} (h : PlOk nf (c :: l)) (hc : c ∉ ([0, 12, 14, 15, 18, 19] : List Int)) : ∃ a b, countsL ks fs (c :: l) = some (a, b) := by
  unfold countsL
  simp only [if_neg hc]
  by_cases h2 : c ∈ ([2, 3, 4] : List Int)
  · simp only [if_pos h2]; split <;> exact ⟨_, _, rfl⟩
  · by_cases h3 : c ∈ ([16, 17] : List Int)
    · simp only [if_neg h2, if_pos h3]; exact ⟨_, _, rfl⟩
    · obtain ⟨a, b, e⟩ := pl_else h hc h2 h3
      simp only [if_neg h2, if_neg h3, e]; exact ⟨_, _, rfl⟩
theorem node_split {nf : Int} {d : Nat} {nd : Nd} {f s : Value} {c0 : Int} {l : List Int} (h : NodeOk nf d nd) (hs : shapeOk nd f s) (e : ndP nd = c0 :: l) :
    (f = .none ∧ LeafOk nf (c0 :: l)) ∨ ∃ fa a0, f = .ref fa ∧ l = [a0] ∧ c0 ∈ ([2, 3, 4] : List Int) ∧ KindOk a0 := by
  cases nd with
  | leaf p => unfold NodeOk at h; cases e; exact .inl ⟨hs.1, h⟩
  | one p f =>
    cases d with
    | zero => unfold NodeOk at h; exact h.elim
    | succ d =>
      unfold NodeOk at h
      obtain ⟨⟨b, a, rfl, hb, k⟩, _⟩ := h
      obtain ⟨fa, rfl⟩ := hs.1
      cases e; exact .inr ⟨fa, a, rfl, rfl, by simpa using hb, k⟩
  | two p f s =>
    cases d with
    | zero => unfold NodeOk at h; exact h.elim
    | succ d =>
      unfold NodeOk at h
      obtain ⟨⟨a, rfl, k⟩, _⟩ := h
      obtain ⟨fa, rfl⟩ := hs.1
      cases e; exact .inr ⟨fa, a, rfl, rfl, by simp, k⟩
set_option maxHeartbeats 1000000 in
theorem sp_behind {w : World} {G0 : Heap} (T : Tp w G0) {d e : Nat} {g : Vis} {x px dx pa : Addr} {k : Tk3} {n : Nat} {f sd : Value} {ks : Kinds} {fs : List Int} {nd : Nd} {h : Int} {tk : Tok} (hC : CtxOk ks fs) (hx : ArAt w.params g ks fs x)
    (hpx : g px = some (instObj 191 dx)) (hr : Rd g (.ref pa) (.tuple (iis (ndP nd)))) (hn : NodeOk fs.length e nd) (hs : shapeOk nd f sd) :
    Ct pw w G0 (d + 4) (.ref 270) [.ref x, .ref px, .int h tk] g [(dx, pcO w.params k (.ref pa) f sd n)] (fun v g' own' => own' = [(dx, pcO w.params k (.ref pa) f sd n)] ∧ Rd g' v (intD (behN ks fs nd h))) := by
  refine ent (gls := [("LAST", .ref 137), ("IF", .int 4 218), ("int", .type "int")]) (m := [("self", .loc (some (.ref x))), ("piece", .loc (some (.ref px))), ("height", .loc (some (.int h tk))), ("takes", .loc none), ("puts", .loc none)]) (binds := [("self", .ref x), ("piece", .ref px), ("height", .int h tk)]) (rest := ["takes", "puts"]) (T.K 270 o270 (by kernel_rfl)) (show o270.data = .func fd270 from rfl) T.nolim (codeRec_of T.K (by kernel_rfl)) rfl rfl rfl (fun _ _ => BindsTo.of_eq rfl) rfl (by kernel_rfl) (T.glb (by walk_at "gls")) ?_
  intro c s A r hG hgl he en S
  subst hG
  have hp := node_pl hn
  have hLA : Rd g (.ref 137) (.tuple (iis [0, 12, 14, 15, 18, 19])) := S.rdTop T (n := 30) (by kernel_rfl)
  obtain ⟨c0, l, hcl⟩ : ∃ c0 l, ndP nd = c0 :: l := by
    cases e : ndP nd with
    | nil => rw [e] at hp; rcases hp with q | ⟨_, _, q, _⟩; (exfalso; rcases q with ⟨y, _, q | q⟩ | ⟨ls, q, _⟩ | ⟨f, q, _⟩ | ⟨a, b, q, _⟩ | q | q | q | q | ⟨k, f, t, ta, pu, m, c, ls, hk, hs, h1, h2, q, _⟩ <;> cases q); cases q
    | cons c0 l => exact ⟨c0, l, rfl⟩
  rw [hcl] at hr hp
  walk_at "go"
  with_reducible refine pc_code (d := d) ‹Sn _ _ _ _ _› T (r.le (by walk_at "le")) hpx .hd hr ?_; intro t0 s0 S0
  walk_at "go"
  with_reducible refine c_inT ‹Sn _ _ _ _ _› r hLA ?_
  walk_at "go"
  with_reducible refine i_dec (fun q1 => ?_) (fun q1 => ?_)
  · walk_at "go"
    have e : behN ks fs nd h = none := by unfold behN; rw [hcl]; simp only [countsL, if_pos q1, Option.map_none]
    refine r_leave ‹Sn _ _ _ _ _› en (.cons .hd .nil) rfl ⟨rfl, ?_⟩
    rw [e]; exact .none
  obtain ⟨a, b, hab⟩ := counts_some (ks := ks) (fs := fs) hp q1
  have e : behN ks fs nd h = some (h - a + b) := by unfold behN; rw [hcl, hab]; rfl
  rcases node_split hn hs hcl with ⟨rfl, hlf⟩ | ⟨fa, a0, rfl, rfl, hb, hk⟩
  · walk_at "go"
    with_reducible refine r_call0T ‹Sn _ _ _ _ _› r (sp_of (d := d) T hC hx hlf hr hab) ?_
    intro vrv7 _ _ s7 g7 S7 hv7 hr7 _ _
    have hr8 : Rd g7 _ (.tuple [.int a, .int b]) := hr7
    with_reducible refine a_pair S7 r.hd hr8 (by with_unfolding_all rfl) (by with_unfolding_all rfl) ?_; intro u1 u2 s8 hu1 hu2 S8
    obtain ⟨t5, rfl⟩ := hu1.int_inv
    obtain ⟨t6, rfl⟩ := hu2.int_inv
    walk_at "go"
    exact r_leave ‹Sn _ _ _ _ _› en (.cons .hd .nil) rfl ⟨rfl, by rw [e]; exact .int _ _⟩
  · walk_at "go"
    with_reducible refine s_tup1 ‹Sn _ _ _ _ _› hr ?_ (by with_unfolding_all rfl); intro t3
    walk_at "go"
    with_reducible refine r_call0 ‹Sn _ _ _ _ _› (r.le (by walk_at "le")) (sp_of_block (d := 0) T hC hx hk) ?_
    intro v7 s7 g7 S7 hv7 hr7
    obtain ⟨ta, pu, he1, he2⟩ : ∃ ta pu, (if a0 < 0 then [0, if a0 = -64 then 0 else 1] else [(klen ks a0).1, (klen ks a0).2]) = [ta, pu] ∧ h - a + b = h - ta + pu - (if c0 == 4 then 1 else 0) := by
      have hb' := hb
      simp only [List.mem_cons, List.not_mem_nil, or_false] at hb'
      simp only [countsL, if_neg q1, if_pos hb] at hab
      have hab : (if a0 < 0 then some ((if c0 = 4 then (1 : Int) else 0), (if a0 = -64 then (0 : Int) else 1)) else some ((if c0 = 4 then 1 else 0) + (klen ks a0).1, (klen ks a0).2)) = some (a, b) := hab
      by_cases hneg : a0 < 0
      · rw [if_pos hneg] at hab ⊢
        cases hab
        refine ⟨_, _, rfl, ?_⟩
        simp only [beq_iff_eq]; walk_at "om"
      · rw [if_neg hneg] at hab ⊢
        cases hab
        refine ⟨_, _, rfl, ?_⟩
        simp only [beq_iff_eq]; walk_at "om"
    rw [he2] at e
    have hr8 : Rd g7 v7 (.tuple [.int ta, .int pu]) := by rw [he1] at hr7; exact hr7
    obtain ⟨_, rfl⟩ := hr8.tup_ref
    with_reducible refine a_pair S7 r.hd hr8 (by with_unfolding_all rfl) (by with_unfolding_all rfl) ?_; intro u1 u2 s8 hu1 hu2 S8
    obtain ⟨t5, rfl⟩ := hu1.int_inv
    obtain ⟨t6, rfl⟩ := hu2.int_inv
    have hpx7 := hv7 _ _ hpx
    walk_at "go"
    with_reducible refine pc_code (d := d) ‹Sn _ _ _ _ _› T (r.le (by walk_at "le")) hpx7 .hd (hr.up hv7) ?_; intro t7 s9 S9
    walk_at "go"
    exact r_leave ‹Sn _ _ _ _ _› en (.cons .hd .nil) rfl ⟨rfl, by rw [e]; exact .int _ _⟩
noncomputable abbrev mBA (x a : Addr) (u1 u2 : Option Value) : Loc := [("self", .loc (some (.ref x))), ("pieces", .loc (some (.ref a))), ("height", .loc u1), ("piece", .loc u2)]
inductive BaInv (g₀ : Vis) (ks : Kinds) (fs : List Int) (t : List Nd) (h : Int) (x a : Addr) (D : Led) : Nat → Vis → Loc → Led → Prop
  | mk {i g h' tk u} : VSub g₀ g → behT ks fs (t.take i) h = some h' → BaInv g₀ ks fs t h x a D i g (mBA x a (some (.int h' tk)) u) D
theorem behT_app (ks : Kinds) (fs : List Int) : ∀ (a b : List Nd) (h : Int), behT ks fs (a ++ b) h = (behT ks fs a h).bind (behT ks fs b)
  | [], b, h => rfl
  | n :: r, b, h => by
    show (behN ks fs n h).bind (behT ks fs (r ++ b)) = ((behN ks fs n h).bind (behT ks fs r)).bind (behT ks fs b)
    cases behN ks fs n h with
    | none => rfl
    | some y => exact behT_app ks fs r b y
theorem tree_at {nf : Int} {d : Nat} {t : List Nd} {i : Nat} {n : Nd} (h : TreeOk nf d t) (hn : t[i]? = some n) : NodeOk nf d n := by
  induction t generalizing i with
  | nil => simp at hn
  | cons m r ih =>
    unfold TreeOk at h
    cases i with
    | zero => cases hn; exact h.1
    | succ i => exact ih h.2 (i := i) (by simpa using hn)
set_option maxHeartbeats 1000000 in
theorem sp_behind_all {w : World} {G0 : Heap} (T : Tp w G0) {d e : Nat} {g : Vis} {x a : Addr} {hv : List Value} {nf : Nat} {ks : Kinds} {fs : List Int} {t : List Nd} {D : Led} {h : Int} {tk : Tok} (hC : CtxOk ks fs) (hx : ArAt w.params g ks fs x)
    (hg : g a = some (lstO hv nf)) (hpl : PL w.params g hv t D) (hn : TreeOk fs.length e t) :
    Ct pw w G0 (d + 5) (.ref 277) [.ref x, .ref a, .int h tk] g D (fun v g' own' => own' = D ∧ Rd g' v (intD (behT ks fs t h))) := by
  refine ent (gls := []) (m := mBA x a (some (.int h tk)) none) (binds := [("self", .ref x), ("pieces", .ref a), ("height", .int h tk)]) (rest := ["piece"]) (T.K 277 o277 (by kernel_rfl)) (show o277.data = .func fd277 from rfl) T.nolim (codeRec_of T.K (by kernel_rfl)) rfl rfl rfl (fun _ _ => BindsTo.of_eq rfl) rfl (by kernel_rfl) (T.glb (by walk_at "gls")) ?_
  intro c s A r hG hgl he en S
  subst hG
  walk_at "go"
  with_reducible refine iter_list ‹Sn _ _ _ _ _› hg ?_; intro I o s7 S7 hI
  have hvt := hpl.length
  refine for_itr itr_list (BaInv g ks fs t h x a D) r.hd .name (.inl rfl) S7 hI (.mk (VSub.refl _) rfl) ?step ?fin
  case step =>
    rintro i v g2 g3 m own news s E' hi hv3 hP hT hI S
    cases hI with | @mk h' tk' u hvs hbt =>
    have hg3 := hvs.trans hv3
    obtain ⟨nd, hnd⟩ : ∃ nd, t[i]? = some nd := ⟨t[i]'(by walk_at "om"), by simp⟩
    obtain ⟨v', Da, Di, Db, h1, hpn', rfl⟩ := hpl.get hnd
    obtain rfl : v' = v := Option.some.inj (h1.symm.trans hP)
    cases (hpn'.up hg3).open with | @mk px dx kk kn pa f sd D1 hpx hrp _ _ _ _ hsh =>
    have hx3 := hx.up hg3
    walk_at "go"
    obtain ⟨rest, hpk⟩ := LMem.pick (a := dx) (o := pcO w.params kk (.ref pa) f sd kn) (n := own ++ (Da ++ ((dx, pcO w.params kk (.ref pa) f sd kn) :: D1 ++ Db))) (by walk_at "led")
    with_reducible refine r_callU ‹Sn _ _ _ _ _› r hpk (sp_behind (d := d) T hC hx3 hpx hrp (tree_at hn hnd) hsh) ?_
    intro v8 s8 g8 S8 hv8 hr8
    have hbt' : behT ks fs (t.take (i + 1)) h = behN ks fs nd h' := by
      rw [take_succ_get hnd, behT_app, hbt]
      show (behN ks fs nd h').bind (fun h => some h) = _
      cases behN ks fs nd h' <;> rfl
    cases hbn : behN ks fs nd h' with
    | none =>
      rw [hbn] at hr8 hbt'
      obtain rfl := hr8.none_inv
      walk_at "go"
      refine r_leaveP ‹Sn _ _ _ _ _› en (own := Da ++ ((dx, _) :: D1 ++ Db)) (rest := own) List.perm_append_comm rfl ⟨rfl, ?_⟩
      have e : behT ks fs t h = none := by rw [← List.take_append_drop (i + 1) t, behT_app, hbt']; rfl
      rw [e]; exact .none
    | some h2 =>
      rw [hbn] at hr8 hbt'
      obtain ⟨t9, rfl⟩ := hr8.int_inv
      walk_at "go"
      exact loop_next (g' := g8) hv8 (.mk (hg3.trans hv8) hbt') ‹Sn _ _ _ _ _›
  case fin =>
    rintro g2 m news s hI S
    cases hI with | @mk h' tk' u hvs hbt =>
    rw [hvt, List.take_length] at hbt
    walk_at "go"
    refine r_leaveP ‹Sn _ _ _ _ _› en (own := D) (rest := []) (by rw [List.append_nil]) rfl ⟨rfl, ?_⟩
    rw [hbt]; exact .int _ _


-- F20a
theorem wp_cut {α : Type} {M : Model} {A : Around} {E : Value → Shared → Prop} {s : Shared} {x : Sem α} {Q : α → Shared → Prop} (v₀ : α) (J : Shared → Prop) (h : wpAny M A x (fun b s' => b = v₀ ∧ J s') E s) (k : ∀ s', J s' → Q v₀ s') : wpAny M A x Q E s :=
  wpAny_mono h (fun b s' q => by obtain ⟨rfl, q⟩ := q; exact k s' q) fun _ _ e => e
theorem wp_cutV {α : Type} {M : Model} {A : Around} {E : Value → Shared → Prop} {s : Shared} {x : Sem α} {Q : α → Shared → Prop} (J : α → Shared → Prop) (h : wpAny M A x J E s) (k : ∀ v s', J v s' → Q v s') : wpAny M A x Q E s :=
  wpAny_mono h (fun b s' q => k b s' q) fun _ _ e => e
theorem r_lenLn {w : World} {A : Around} {E : Value → Shared → Prop} {s : Shared} {c : Cx} {g : Vis} {m : Loc} {news : Led} {a : Addr} {vs : List Value} {n k : Nat} {Q : Value → Shared → Prop} (S : Sn c g m news s) (hg : g a = some (lstO vs n)) (hk : vs.length = k) (hb : k ≤ 10000)
    (h : ∀ t s', Sn c g m news s' → Q (.int k t) s') : wpAny (model pw w) A (call (.builtin "len") [.ref a]) Q E s := by
  subst hk; exact r_lenL S (S.see hg) (by simp only [sizeLine]; lia) h
inductive NdV (g : Vis) (nd : Nd) : Value → Prop
  | mk {a pv f s n} : g a = some { cls := .type "tuple", data := .seq (List.toArray [.ref pv, f, s]) n } → Rd g (.ref pv) (.tuple (iis (ndP nd))) → OV f → OV s → shapeOk nd f s → RdAll g (partsL f s) ((partsN nd).map fun f => .list (treeD f)) → NdV g nd (.ref a)
theorem rd_node {g : Vis} {nd : Nd} {v : Value} (h : Rd g v (nodeD nd)) : NdV g nd v := by
  cases nd with
  | leaf p =>
    obtain ⟨a, pv, n, rfl, hg, hr⟩ := rd_leaf h
    obtain ⟨_, rfl⟩ := hr.tup_ref
    exact .mk hg hr (.inl rfl) (.inl rfl) ⟨rfl, rfl⟩ .nil
  | one p f =>
    obtain ⟨a, pv, fa, n, rfl, hg, hr, hf⟩ := rd_one h
    obtain ⟨_, rfl⟩ := hr.tup_ref
    exact .mk hg hr (.inr ⟨_, rfl⟩) (.inl rfl) ⟨⟨_, rfl⟩, rfl⟩ (.cons hf .nil)
  | two p f s =>
    obtain ⟨a, pv, fa, sa, n, rfl, hg, hr, hf, hs⟩ := rd_two h
    obtain ⟨_, rfl⟩ := hr.tup_ref
    exact .mk hg hr (.inr ⟨_, rfl⟩) (.inr ⟨_, rfl⟩) ⟨⟨_, rfl⟩, _, rfl⟩ (.cons hf (.cons hs .nil))
theorem shape_none {nd : Nd} {f s f2 s2 : Value} (h : shapeOk nd f s) (h2 : shapeOk nd f2 s2) : (f == Value.none) = (f2 == Value.none) ∧ (s == Value.none) = (s2 == Value.none) := by
  cases nd with
  | leaf p => obtain ⟨rfl, rfl⟩ := h; obtain ⟨rfl, rfl⟩ := h2; exact ⟨rfl, rfl⟩
  | one p t => obtain ⟨⟨a, rfl⟩, rfl⟩ := h; obtain ⟨⟨b, rfl⟩, rfl⟩ := h2; exact ⟨rfl, rfl⟩
  | two p t u => obtain ⟨⟨a, rfl⟩, ⟨a', rfl⟩⟩ := h; obtain ⟨⟨b, rfl⟩, b', rfl⟩ := h2; exact ⟨rfl, rfl⟩
theorem part_ok {nf : Int} {e : Nat} {nd : Nd} {j : Nat} {f : List Nd} (h : NodeOk nf e nd) (hf : (partsN nd)[j]? = some f) : ∃ e', TreeOk nf e' f := by
  cases nd with
  | leaf p => simp [partsN] at hf
  | one p t =>
    cases e with
    | zero => unfold NodeOk at h; exact h.elim
    | succ e =>
      unfold NodeOk at h
      cases j <;> simp [partsN] at hf
      subst hf; exact ⟨e, h.2⟩
  | two p t u =>
    cases e with
    | zero => unfold NodeOk at h; exact h.elim
    | succ e =>
      unfold NodeOk at h
      match j, hf with
      | 0, hf => simp [partsN] at hf; subst hf; exact ⟨e, h.2.1⟩
      | 1, hf => simp [partsN] at hf; subst hf; exact ⟨e, h.2.2⟩
      | j + 2, hf => simp [partsN] at hf
theorem cnt_part {n : Nd} {j : Nat} {f : List Nd} (hf : (partsN n)[j]? = some f) : cntT f ≤ cntN n := by
  cases n with
  | leaf q => simp [partsN] at hf
  | one q f' => cases j <;> simp [partsN] at hf; subst hf; simp only [cntN]; lia
  | two q f' s =>
    match j, hf with
    | 0, hf => simp [partsN] at hf; subst hf; simp only [cntN]; lia
    | 1, hf => simp [partsN] at hf; subst hf; simp only [cntN]; lia
    | j + 2, hf => simp [partsN] at hf
theorem leaf_len {nf : Int} {p : List Int} (h : LeafOk nf p) : p ≠ [] ∧ p.length ≤ 10 := by
  rcases h with ⟨l, _, rfl | rfl⟩ | ⟨ls, rfl, _, h, _⟩ | ⟨f, rfl, _⟩ | ⟨a, b, rfl, _⟩ | rfl | rfl | rfl | rfl | ⟨k, f, t, ta, pu, m, c, ls, hk, hs, h1, h2, rfl, hl, _⟩
  all_goals refine ⟨List.cons_ne_nil _ _, ?_⟩
  all_goals simp only [List.length_cons, List.length_nil]
  all_goals try lia
  have : spansL.all (fun l => decide (l.getD 4 0 ≤ 5)) = true := by decide
  have := of_decide_eq_true (List.all_eq_true.mp this _ (List.mem_of_getElem? hs))
  have : m ≤ 5 := this
  lia
theorem parts_le (nd : Nd) : (partsN nd).length ≤ 10000 := by cases nd <;> simp [partsN]
theorem rd_partsLen {g : Vis} {vs : List Value} {ts : List (List Nd)} (h : RdAll g vs (ts.map fun f => .list (treeD f))) : vs.length = ts.length := by rw [h.length, List.length_map]
theorem ne_self (n : Nat) : ((n : Int) != (n : Int)) = false := by simp
theorem cntN_pos (n : Nd) : 1 ≤ cntN n := by cases n <;> simp only [cntN] <;> lia
theorem len_cnt : ∀ t : List Nd, t.length ≤ cntT t
  | [] => Nat.zero_le _
  | n :: r => by have := len_cnt r; have := cntN_pos n; simp only [cntT, List.length_cons]; lia
theorem dpN_part {n : Nd} {j : Nat} {f : List Nd} {t : List Nd} {i k : Nat} (hf : (partsN n)[j]? = some f) (hn : t[i]? = some n) (hd : dpT t ≤ k) : ∃ e, k = e + 1 ∧ dpT f ≤ e := by
  have h1 := dp_part hf
  have h2 := dp_get hn
  cases k with
  | zero => lia
  | succ k => exact ⟨k, rfl, by lia⟩
theorem cnt_part2 {n : Nd} {j : Nat} {f : List Nd} {t : List Nd} {i k : Nat} (hf : (partsN n)[j]? = some f) (hn : t[i]? = some n) (hc : cntT t ≤ k) : cntT f ≤ k := by
  have h1 := cnt_part hf
  have h2 := cnt_at hn
  lia
theorem min_self2 {a b c : Nat} (h : a = c) (h2 : b = c) : min a b = c := by lia
mutual
theorem flat_okN {nf : Int} : ∀ (n : Nd) (d : Nat), NodeOk nf d n → ∀ p ∈ flatN n, p ≠ [] ∧ p.length ≤ 10
  | .leaf p, d, h => by unfold NodeOk at h; intro q hq; simp only [flatN, List.mem_singleton] at hq; subst hq; exact leaf_len h
  | .one p f, 0, h => by unfold NodeOk at h; exact h.elim
  | .one p f, d + 1, h => by
    unfold NodeOk at h
    obtain ⟨⟨b, a, rfl, _⟩, ht⟩ := h
    intro q hq
    simp only [flatN, List.mem_cons, List.mem_append, List.not_mem_nil, or_false] at hq
    rcases hq with rfl | hq | rfl
    · exact ⟨by simp, by simp⟩
    · exact flat_ok f d ht q hq
    · exact ⟨by simp, by simp⟩
  | .two p f s, 0, h => by unfold NodeOk at h; exact h.elim
  | .two p f s, d + 1, h => by
    unfold NodeOk at h
    obtain ⟨⟨a, rfl, _⟩, ht, hs⟩ := h
    intro q hq
    simp only [flatN, List.mem_cons, List.mem_append, List.not_mem_nil, or_false] at hq
    rcases hq with rfl | (hq | rfl | hq) | rfl
    · exact ⟨by simp, by simp⟩
    · exact flat_ok f d ht q hq
    · exact ⟨by simp, by simp⟩
    · exact flat_ok s d hs q hq
    · exact ⟨by simp, by simp⟩
theorem flat_ok {nf : Int} : ∀ (t : List Nd) (d : Nat), TreeOk nf d t → ∀ p ∈ flatT t, p ≠ [] ∧ p.length ≤ 10
  | [], d, h => fun p hp => by simp [flatT] at hp
  | n :: r, d, h => by
    unfold TreeOk at h
    intro p hp
    rcases List.mem_append.mp (show p ∈ flatN n ++ flatT r from hp) with q | q
    · exact flat_okN n d h.1 p q
    · exact flat_ok r d h.2 p q
end


-- F20
noncomputable abbrev mRg (a ta x ka fa : Addr) (h : Int) (tk : Tok) (nv : Option Value) (u1 u2 u3 u4 u5 u6 u7 u8 u9 u10 : Option Value) : Loc := [("pieces", .loc (some (.ref a))), ("tree", .loc (some (.ref ta))), ("arities", .loc (some (.ref x))), ("height", .loc (some (.int h tk))), ("kinds", .loc (some (.ref ka))), ("funcs", .loc (some (.ref fa))),  ("now", .loc nv), ("piece", .loc u1), ("node", .loc u2), ("plain", .loc u3), ("first", .loc u4), ("second", .loc u5), ("parts", .loc u6), ("labels", .loc u7), ("counts", .loc u8), ("inner", .loc u9), ("k", .loc u10)]
inductive RgInv (g₀ : Vis) (ks : Kinds) (fs : List Int) (t : List Nd) (h : Int) (a ta x ka fa : Addr) (tk : Tok) (D : Led) : Nat → Vis → Loc → Led → Prop
  | mk {i g nv u1 u2 u3 u4 u5 u6 u7 u8 u9 u10} : VSub g₀ g → Rd g nv (intD (behT ks fs (t.take i) h)) → RgInv g₀ ks fs t h a ta x ka fa tk D i g (mRg a ta x ka fa h tk (some nv) u1 u2 u3 u4 u5 u6 u7 u8 u9 u10) D
noncomputable abbrev RightSpec (w : World) (G0 : Heap) (d n : Nat) : Prop := ∀ (g : Vis) (a ta x ka fa : Addr) (hv : List Value) (nf e : Nat) (t : List Nd) (D : Led) (h : Int) (tk : Tok) (ks : Kinds) (fs : List Int), dpT t ≤ n → cntT t ≤ 1000 → TreeOk fs.length e t → CtxOk ks fs → g a = some (lstO hv nf) → PL w.params g hv t D →
  Rd g (.ref ta) (.list (treeD t)) → ArAt w.params g ks fs x → Rd g (.ref ka) (.list (kindsD ks)) → Rd g (.ref fa) (.list (iis fs)) → Ct pw w G0 d (.ref 534) [.ref a, .ref ta, .ref x, .int h tk, .ref ka, .ref fa] g D (fun v _ own' => own' = D ∧ v = .bool true)
set_option maxHeartbeats 4000000 in
theorem sp_right1 {w : World} {G0 : Heap} (T : Tp w G0) {d n : Nat} (IH : ∀ e, n = e + 1 → RightSpec w G0 (d + 5) e) : RightSpec w G0 (d + 6) n := by
  intro g a ta x ka fa hv nf e t D h tk ks fs hdp hct htr hC hga hpl hrt hx hrk hrf
  refine ent (gls := [("len", .builtin "len"), ("zip", .type "zip"), ("range", .type "range"), ("_law_counts", .ref 529), ("_law_is_right", .ref 534)]) (m := mRg a ta x ka fa h tk none none none none none none none none none none none) (binds := [("pieces", .ref a), ("tree", .ref ta), ("arities", .ref x), ("height", .int h tk), ("kinds", .ref ka), ("funcs", .ref fa)]) (rest := ["now", "piece", "node", "plain", "first", "second", "parts", "labels", "counts", "inner", "k"]) (T.K 534 o534 (by kernel_rfl)) (show o534.data = .func fd534 from rfl) T.nolim (codeRec_of T.K (by kernel_rfl)) rfl rfl rfl (fun _ _ => BindsTo.of_eq rfl) rfl (by kernel_rfl) (T.glb (by walk_at "gls")) ?_
  intro c s A r hG hgl he en S
  subst hG
  obtain ⟨L, he⟩ := he
  obtain ⟨_, tvs, tn, e0, hgt, hrtv⟩ := id hrt.lst_inv
  cases e0
  have hvt := hpl.length
  have htl := hrtv.length
  rw [treeD_len] at htl
  have htc := len_cnt t
  walk_at "go"
  with_reducible refine r_lenLn (k := t.length) ‹Sn _ _ _ _ _› hga hvt (by walk_at "om") ?_; intro t1 s1 S1
  walk_at "go"
  have ⟨tn', hgt'⟩ : ∃ n, g ta = some (lstO tvs n) := ⟨_, hgt⟩
  with_reducible refine r_lenLn (k := t.length) ‹Sn _ _ _ _ _› hgt' htl (by walk_at "om") ?_; intro t2 s2 S2
  walk_at "go"
  have hb : ((t.length : Int) != (t.length : Int)) = false := by simp
  with_reducible refine i_no hb ?_
  walk_at "go"
  with_reducible refine call_zip ‹Sn _ _ _ _ _› hga hgt ?_
  intro z oz g3 s3 hv3 S3 hoz hZ
  obtain ⟨TI, TO, i1, i2, hZ⟩ := hZ
  refine itr_zip.self hZ S3 ?_
  refine for_itr itr_zip (RgInv g3 ks fs t h a ta x ka fa tk D) r.hd .tup (.inr ⟨_, _, _, rfl⟩) S3 hZ (.mk (VSub.refl _) (.int _ _)) ?step ?fin
  case step =>
    clear S S1 S2 S3
    intro i v g4 g5 m own news s E' hi hv5 hPz hT hI S
    refine hide2 v D fun X hX => ?_
    obtain ⟨xv, yv, tz, hxv, hyv, rfl, hgz⟩ := hPz
    cases hI with | @mk nv u1 u2 u3 u4 u5 u6 u7 u8 u9 u10 hvs hnow =>
    have hg := hv3.trans (hvs.trans hv5)
    have hin : i < t.length := by rw [Nat.lt_min] at hi; walk_at "om"
    obtain ⟨nd, hnd⟩ : ∃ nd, t[i]? = some nd := ⟨t[i]'hin, by simp [hin]⟩
    obtain ⟨xd, hxd, hrxd⟩ := (hrtv.up hg).get hyv
    obtain ⟨nd', hnd', rfl⟩ := treeD_get hxd
    obtain rfl : nd = nd' := Option.some.inj (hnd.symm.trans hnd')
    obtain ⟨v', Da, Di, Db, h1, hpn', rfl⟩ := hpl.get hnd
    obtain rfl : v' = xv := Option.some.inj (h1.symm.trans hxv)
    have hno := tree_at htr hnd
    have hpo := node_pl hno
    have hc1 := cnt_at hnd
    have hd1 := dp_get hnd
    obtain ⟨c0, l, hcl, hll⟩ := (show PlnOk t from flat_ok t e htr).at hnd
    cases (hpn'.up hg).open with | @mk px dx kk kn pa f sd D1 hpx hrp hf hs hpp _ hsh =>
    cases rd_node hrxd with | @mk na pv f2 s2 nn hgn hrv hf2 hs2 hsh2 hpt =>
    rw [hcl] at hrp hrv hpo
    have hx5 := hx.up hg
    have hrk5 := hrk.up hg
    have hrf5 := hrf.up hg
    have hnow5 := hnow.up hv5
    clear hnd' hxd h1 hxv hyv hrxd
    refine hX _ _ ?_
    clear hX
    refine a_tup S r.hd (S.see hgz) (by with_unfolding_all rfl) (by with_unfolding_all rfl) ?_; intro s6 S6
    walk_at "go"
    refine a_tup ‹Sn _ _ _ _ _› r.hd (Sn.see ‹Sn _ _ _ _ _› hgn) (by with_unfolding_all rfl) (by with_unfolding_all rfl) ?_; intro s7 S7
    walk_at "go"
    with_reducible refine x_asgC (cl := []) (by rw [he]; with_unfolding_all rfl) (by rw [he]; with_unfolding_all rfl) (by with_unfolding_all rfl) (by kernel_rfl) (fun _ _ => ?_) (by intro _; with_unfolding_all rfl)
    walk_at "go"
    with_reducible refine r_newT ‹Sn _ _ _ _ _› ?_ (by walk_at "sz"); intro tc s8 htc S8
    refine Sn.lockK S8 (by walk_at "led") htc fun g8 hv8 hg8 S8 => ?_
    with_reducible refine iter_tup (vs := [f2, s2]) S8 hg8 ?_; intro I s9' s9 S9 hI9
    refine comp_itrU (mS := fun D => mRg a ta x ka fa h tk (some nv) (some (.ref px)) (some (.ref na)) (some (.ref pv)) (some f2) (some s2) (some (.ref D)) u7 u8 u9 u10) (own := []) (mc0 := [("part", .loc none)]) (gls := []) itr_tup (fun mc => ∃ u, mc = ([("part", .loc u)] : Loc)) (fun i g own vs => own = [] ∧ vs = ([f2, s2].take i).filter notN ∧ i ≤ 2) he ?hok ?gb ?sl ⟨_, rfl⟩ r.hd .name (.inl rfl) S9 (by walk_at "led") hI9 ⟨rfl, rfl, Nat.zero_le _⟩ ?len ?step2 ?hset ?fin2
    case hset => intro D; walk_at "set"
    case hok => kernel_rfl
    case gb => exact T.glb (by walk_at "gls")
    case sl => exact .loc (by kernel_rfl) (by kernel_rfl) .nil
    case len =>
      rintro i g own vs ⟨_, rfl, hi⟩
      have := List.length_filter_le notN ([f2, s2].take i)
      rw [List.length_take] at this
      exact Nat.lt_of_le_of_lt (Nat.le_trans this (Nat.min_le_right ..)) (show (2 : Nat) < 2 ^ 24 by decide)
    case step2 =>
      intro c' C D i v g0 g2 mc oi own' vs k' s3 E' he' hgl' hG' hi2 hv2 hP hT hQ21 hw hQ23 S'
      refine hide5 v mc oi own' vs fun XX hXX => ?_
      obtain ⟨rfl, rfl, hi3⟩ := hQ21
      obtain ⟨u, rfl⟩ := hQ23
      clear hpx hrp hf hs hpp hsh hgn hrv hpt hx5 hrk5 hrf5 hnow5 hno hpo hpl hrt hx hrk hrf IH htr hC hcl
      refine hXX _ _ _ _ _ ?_
      clear hXX
      walk_at "go"
      have hi4 : i + 1 ≤ 2 := hi2
      cases hn : (!v == Value.none) with
      | true =>
        walk_at "go"
        refine comp_next (g' := g2) (VSub.refl _) ⟨_, rfl⟩ ⟨rfl, ?_, hi4⟩ rfl (by assumption)
        rw [take_succ_get hP, List.filter_append, List.filter_cons_of_pos (p := notN) hn]; rfl
      | false =>
        refine comp_next (g' := g2) (VSub.refl _) ⟨_, rfl⟩ ⟨rfl, ?_, hi4⟩ rfl (by assumption)
        rw [take_succ_get hP, List.filter_append, List.filter_cons_of_neg (p := notN) (by simp [notN, hn])]; simp
    case fin2 =>
      intro Dp g9 own9 vs9 k9 s10 hD9 hv9 hQ8 hw9 S10
      refine hide2 own9 vs9 fun XX hXX => ?_
      obtain ⟨rfl, rfl, hi3⟩ := hQ8
      refine Sn.lockK S10 (by walk_at "led") hD9 fun g10 hv10 hg10 S10 => ?_
      have hg10 : g10 Dp = some (lstO (partsL f2 s2) k9) := hg10
      have hv510 := (hv8.trans hv9).trans hv10
      simp only [List.nil_append] at S10
      clear S9 S8 S6 S7 S
      have hpx10 := hv510 _ _ hpx
      have hrp10 := hrp.up hv510
      have hrv10 := hrv.up hv510
      have hx10 := hx5.up hv510
      have hrk10 := hrk5.up hv510
      have hrf10 := hrf5.up hv510
      have hnow10 := hnow5.up hv510
      have hpp10 := hpp.up hv510
      have hpt10 := hpt.up hv510
      clear hpx hrp hrv hx5 hrk5 hrf5 hnow5 hpp hpt hgn hnow hg8 hpn'
      refine hXX _ _ ?_
      clear hXX
      walk_at "go"
      with_reducible refine s_tup0 ‹Sn _ _ _ _ _› hrv10 ?_ (by with_unfolding_all rfl); intro t3
      walk_at "go"
      with_reducible refine r_newTD ‹Sn _ _ _ _ _› (xs := iis [12, 13, 14]) (.cons (.int _ _) (.cons (.int _ _) (.cons (.int _ _) .nil))) ?_ (by walk_at "sz"); intro tb s11 g11 hv11 hr11 S11
      with_reducible refine c_inT ‹Sn _ _ _ _ _› r hr11 ?_
      walk_at "go"
      refine i_join (J := fun v s' => ∃ la g', v = .ref la ∧ VSub g11 g' ∧ Rd g' (.ref la) (.tuple (iis (labelsOf (c0 :: l)))) ∧ Sn c g' (mRg a ta x ka fa h tk (some nv) (some (.ref px)) (some (.ref na)) (some (.ref pv)) (some f2) (some s2) (some (.ref Dp)) u7 u8 u9 u10) (own ++ (Da ++ ((dx, pcO w.params kk (.ref pa) f sd kn) :: D1 ++ Db))) s') ?_ ?_
      · have hb : isBr (c0 :: l) = decide (c0 ∈ ([12, 13, 14] : List Int)) := by unfold isBr; simp [Bool.beq_eq_decide_eq, Bool.or_assoc]
        with_reducible refine i_dec (fun q1 => ?_) (fun q1 => ?_)
        · walk_at "go"
          obtain ⟨_, vs, n0, e0, hgp, hrp2⟩ := (hrv10.up hv11).tup_inv
          cases e0
          have hlen := hrp2.length
          simp only [List.length_map, List.length_cons] at hlen
          with_reducible refine s_from1A ‹Sn _ _ _ _ _› (Sn.see ‹Sn _ _ _ _ _› hgp) (by walk_at "om") (by simp only [sizeLine]; walk_at "om") ?_; intro la s12 hla S12
          refine Sn.lockK S12 (by walk_at "led") hla fun g12 hv12 hg12 S12 => ?_
          refine ⟨la, g12, rfl, hv12, ?_, S12⟩
          have e : labelsOf (c0 :: l) = l := by unfold labelsOf; rw [hb, decide_eq_true q1]; rfl
          rw [e]
          exact .tup hg12 ((hrp2.drop 1).up hv12)
        · walk_at "go"
          with_reducible refine r_newTD ‹Sn _ _ _ _ _› (xs := iis []) .nil ?_ (by walk_at "sz"); intro la s12 g12 hv12 hr12 S12
          refine ⟨la, g12, rfl, hv12, ?_, S12⟩
          have e : labelsOf (c0 :: l) = [] := by unfold labelsOf; rw [hb, decide_eq_false q1]; rfl
          rw [e]; exact hr12
      rintro vla s12 ⟨la, g12, rfl, hv12, hrla, S12⟩
      have hv1012 := hv11.trans hv12
      have hpx12 := hv1012 _ _ hpx10
      have hrp12 := hrp10.up hv1012
      have hrv12 := hrv10.up hv1012
      walk_at "go"
      with_reducible refine c_neD ‹Sn _ _ _ _ _› r hrp12 hrv12 (shaped_ti _) ?_
      walk_at "go"
      with_reducible refine pc_code (d := 0) ‹Sn _ _ _ _ _› T (r.le (by walk_at "le")) hpx12 (by walk_at "led") hrp12 ?_; intro t4 s13 S13
      walk_at "go"
      with_reducible refine s_tup0 ‹Sn _ _ _ _ _› hrv12 ?_ (by with_unfolding_all rfl); intro t5
      walk_at "go"
      have hcc : (c0 != c0) = false := by simp
      with_reducible refine i_no hcc ?_
      walk_at "go"
      with_reducible refine k_labels (d := 0) ‹Sn _ _ _ _ _› (r.le (by walk_at "le")) T hpx12 (by walk_at "led") hrp12 (Nat.le_trans hll (by decide)) ?_; intro lb s14 g14 hv14 hr14 S14
      walk_at "go"
      with_reducible refine c_neD ‹Sn _ _ _ _ _› r hr14 (hrla.up hv14) (shaped_ti _) ?_
      have hpx14 := hv14 _ _ hpx12
      walk_at "go"
      obtain ⟨hb1, hb2⟩ := shape_none hsh hsh2
      rw [hb1, hb2]
      with_reducible refine r_newTD ‹Sn _ _ _ _ _› (xs := [.bool (f2 == Value.none), .bool (s2 == Value.none)]) (.cons (.bool _) (.cons (.bool _) .nil)) ?_ (by walk_at "sz"); intro tb1 s15 g15 hv15 hr15 S15
      walk_at "go"
      with_reducible refine r_newTD ‹Sn _ _ _ _ _› (xs := [.bool (f2 == Value.none), .bool (s2 == Value.none)]) (.cons (.bool _) (.cons (.bool _) .nil)) ?_ (by walk_at "sz"); intro tb2 s16 g16 hv16 hr16 S16
      have hshp : shaped (.tuple [.bool (f2 == Value.none), .bool (s2 == Value.none)]) = true := by simp [shaped, PyData.canLay0, PyData.canLayAll0, PyData.depth, PyData.depthAll]
      with_reducible refine c_neD ‹Sn _ _ _ _ _› r (hr15.up hv16) hr16 hshp ?_
      walk_at "go"
      have hv1016 := (hv1012.trans hv14).trans (hv15.trans hv16)
      have hrv16 := hrv10.up hv1016
      with_reducible refine r_call0 ‹Sn _ _ _ _ _› (r.le (by walk_at "le")) (sp_counts (d := 0) T hC hpo hrv16 (hrk10.up hv1016) (hrf10.up hv1016)) ?_
      intro vc s17 g17 S17 hv17 hrc
      have hv1017 := hv1016.trans hv17
      have hx17 := hx10.up hv1017
      have hpx17 := hv1017 _ _ hpx10
      have hrv17 := hrv10.up hv1017
      have hrp17 := hrp10.up hv1017
      have hnow17 := hnow10.up hv1017
      have hpp17 := hpp10.up hv1017
      have hpt17 := hpt10.up hv1017
      have hg1017 := hv1017 _ _ hg10
      have hrc : Rd g17 vc (optD (countsL ks fs (c0 :: l))) := hrc
      have hbeh : behN ks fs nd h = (countsL ks fs (c0 :: l)).map fun p => h - p.1 + p.2 := by unfold behN; rw [hcl]
      clear hr15 hr16 hrla hr14 hr11 hpx10 hrp10 hrv10 hx10 hrk10 hrf10 hnow10 hpp10 hpt10 hg10 hpx12 hrp12 hrv12 hpx14 hrv16 S16 S15 S14 S13 S12 S11 S10
      walk_at "go1"
      walk_at "go1"
      walk_at "go1"
      with_reducible refine wp_cut false (fun s' => ∃ g', VSub g17 g' ∧ Sn c g' (mRg a ta x ka fa h tk (some nv) (some (.ref px)) (some (.ref na)) (some (.ref pv)) (some f2) (some s2) (some (.ref Dp)) (some (.ref la)) (some vc) u9 u10) (own ++ (Da ++ ((dx, pcO w.params kk (.ref pa) f sd kn) :: D1 ++ Db))) s') ?_ ?_
      · clear S17
        cases hcase : countsL ks fs (c0 :: l) with
        | none =>
          rw [hcase] at hrc
          obtain rfl := hrc.none_inv
          walk_at "go"
          exact ⟨rfl, g17, VSub.refl _, ‹Sn _ _ _ _ _›⟩
        | some pq =>
          obtain ⟨p, q⟩ := pq
          rw [hcase] at hrc
          have hrc : Rd g17 vc (.tuple (iis [p, q])) := hrc
          obtain ⟨ca, rfl⟩ := hrc.tup_ref
          walk_at "go"
          with_reducible refine i_b (fun q1 => ?_) (fun q1 => ?_)
          · have hlf : LeafOk fs.length (c0 :: l) := by
              rcases node_split hno hsh2 hcl with ⟨_, hl⟩ | ⟨fa, _, e, _⟩
              · exact hl
              · rw [e] at q1; cases q1
            walk_at "go"
            with_reducible refine r_call0 ‹Sn _ _ _ _ _› (r.le (by walk_at "le")) (sp_of (d := 0) T hC hx17 hlf hrv17 hcase) ?_
            intro vd s18 g18 S18 hv18 hrd
            walk_at "go"
            with_reducible refine c_neD ‹Sn _ _ _ _ _› r hrd (hrc.up hv18) (shaped_ti _) ?_
            walk_at "go"
            exact ⟨rfl, g18, hv18, ‹Sn _ _ _ _ _›⟩
          · exact ⟨rfl, g17, VSub.refl _, ‹Sn _ _ _ _ _›⟩
      rintro s18 ⟨g18, hv18, S18⟩
      have hx18 := hx17.up hv18
      have hpx18 := hv18 _ _ hpx17
      walk_at "go"
      obtain ⟨rest19, hpk19⟩ := LMem.pick (a := dx) (o := pcO w.params kk (.ref pa) f sd kn) (n := own ++ (Da ++ ((dx, pcO w.params kk (.ref pa) f sd kn) :: D1 ++ Db))) (by walk_at "led")
      with_reducible refine r_callU ‹Sn _ _ _ _ _› (r.le (by walk_at "le")) hpk19 (sp_behind (d := 0) T hC hx18 hpx18 (by rw [hcl]; exact hrp17.up hv18) hno hsh) ?_
      intro vb s19 g19 S19 hv19 hrb
      have hrc19 := hrc.up (hv18.trans hv19)
      have hnow19 := hnow17.up (hv18.trans hv19)
      have hvt1 := take_succ_get hnd
      clear hx18 hrv17
      with_reducible refine wp_cutV (fun v s' => Rd g19 v (intD (behN ks fs nd h)) ∧ Sn c g19 (mRg a ta x ka fa h tk (some nv) (some (.ref px)) (some (.ref na)) (some (.ref pv)) (some f2) (some s2) (some (.ref Dp)) (some (.ref la)) (some vc) u9 u10) (own ++ (Da ++ ((dx, pcO w.params kk (.ref pa) f sd kn) :: D1 ++ Db))) s') ?_ ?_
      · clear S17 S18
        cases hcase : countsL ks fs (c0 :: l) with
        | none =>
          rw [hcase] at hrc19 hbeh
          obtain rfl := hrc19.none_inv
          walk_at "go"
          exact ⟨by rw [hbeh]; exact .none, ‹Sn _ _ _ _ _›⟩
        | some pq =>
          obtain ⟨p, q⟩ := pq
          rw [hcase] at hrc19 hbeh
          have hrc19 : Rd g19 vc (.tuple (iis [p, q])) := hrc19
          obtain ⟨ca, rfl⟩ := hrc19.tup_ref
          walk_at "go"
          with_reducible refine s_tup0 ‹Sn _ _ _ _ _› hrc19 ?_ (by with_unfolding_all rfl); intro t6
          walk_at "go"
          with_reducible refine s_tup1 ‹Sn _ _ _ _ _› hrc19 ?_ (by with_unfolding_all rfl); intro t7
          walk_at "go"
          exact ⟨by rw [hbeh]; exact .int _ _, ‹Sn _ _ _ _ _›⟩
      rintro vb2 s20 ⟨hrb2, S20⟩
      have hsi : ∀ o : Option Int, shaped (intD o) = true := fun o => by cases o <;> rfl
      with_reducible refine c_neD S20 r hrb hrb2 (hsi _) ?_
      walk_at "go1"
      walk_at "go1"
      walk_at "go1"
      walk_at "go1"
      walk_at "go1"
      walk_at "go1"
      with_reducible refine wp_cutV (fun v s' => Rd g19 v (intD (behT ks fs (t.take (i + 1)) h)) ∧ Sn c g19 (mRg a ta x ka fa h tk (some nv) (some (.ref px)) (some (.ref na)) (some (.ref pv)) (some f2) (some s2) (some (.ref Dp)) (some (.ref la)) (some vc) u9 u10) (own ++ (Da ++ ((dx, pcO w.params kk (.ref pa) f sd kn) :: D1 ++ Db))) s') ?_ ?_
      · clear S17 S18 S19
        have hbt : behT ks fs (t.take (i + 1)) h = (behT ks fs (t.take i) h).bind fun h' => (countsL ks fs (c0 :: l)).map fun p => h' - p.1 + p.2 := by
          rw [hvt1, behT_app]
          congr 1
          funext h'
          show (behN ks fs nd h').bind (fun h => some h) = _
          unfold behN
          rw [hcl]
          cases countsL ks fs (c0 :: l) <;> rfl
        rw [hbt]
        cases hbi : behT ks fs (t.take i) h with
        | none =>
          rw [hbi] at hnow19
          obtain rfl := hnow19.none_inv
          walk_at "go"
          exact ⟨.none, ‹Sn _ _ _ _ _›⟩
        | some h' =>
          rw [hbi] at hnow19
          obtain ⟨t8, rfl⟩ := hnow19.int_inv
          cases hcase : countsL ks fs (c0 :: l) with
          | none =>
            rw [hcase] at hrc19
            obtain rfl := hrc19.none_inv
            walk_at "go"
            exact ⟨.none, ‹Sn _ _ _ _ _›⟩
          | some pq =>
            obtain ⟨p, q⟩ := pq
            rw [hcase] at hrc19
            have hrc19 : Rd g19 vc (.tuple (iis [p, q])) := hrc19
            obtain ⟨ca, rfl⟩ := hrc19.tup_ref
            walk_at "go"
            with_reducible refine s_tup0 ‹Sn _ _ _ _ _› hrc19 ?_ (by with_unfolding_all rfl); intro t6
            walk_at "go"
            with_reducible refine s_tup1 ‹Sn _ _ _ _ _› hrc19 ?_ (by with_unfolding_all rfl); intro t7
            walk_at "go"
            exact ⟨.int _ _, ‹Sn _ _ _ _ _›⟩
      rintro vn s21 ⟨hrn, S21⟩
      have hpx19 := hv19 _ _ hpx18
      walk_at "go"
      with_reducible refine k_parts (d := 0) ‹Sn _ _ _ _ _› (r.le (by walk_at "le")) T hpx19 (by walk_at "led") hf hs ?_; intro pl kp s22 g22 hv22 hg22 S22
      have hv1722 := (hv18.trans hv19).trans hv22
      have hgp22 := hv1722 _ _ hg1017
      walk_at "go"
      with_reducible refine r_lenLn (k := (partsN nd).length) ‹Sn _ _ _ _ _› hg22 hpp17.length (parts_le nd) ?_; intro t9 s23 S23
      walk_at "go"
      with_reducible refine r_lenLn (k := (partsN nd).length) ‹Sn _ _ _ _ _› hgp22 (rd_partsLen hpt17) (parts_le nd) ?_; intro t10 s24 S24
      walk_at "go"
      with_reducible refine i_no (ne_self _) ?_
      walk_at "go"
      with_reducible refine r_lenLn (k := (partsN nd).length) ‹Sn _ _ _ _ _› hgp22 (rd_partsLen hpt17) (parts_le nd) ?_; intro t11 s25 S25
      walk_at "go"
      have hp2 : (partsN nd).length < 2 ^ 62 := Nat.lt_of_le_of_lt (parts_le nd) (by decide)
      with_reducible refine call_range ‹Sn _ _ _ _ _› ?_; intro ra s26 _ _ _ S26
      with_reducible refine iter_range S26 .hd (by walk_at "om") (by walk_at "om") ?_; intro I2 o2 s27 S27 hI2
      clear S17 S18 S20 S21 S22 S23 S24 S25 S26
      refine for_itr itr_range (fun j g m news => VSub g22 g ∧ ∃ u, m = mRg a ta x ka fa h tk (some vn) (some (.ref px)) (some (.ref na)) (some (.ref pv)) (some f2) (some s2) (some (.ref Dp)) (some (.ref la)) (some vc) (some (.ref pl)) u ∧ news = (own ++ (Da ++ ((dx, pcO w.params kk (.ref pa) f sd kn) :: D1 ++ Db)))) r.hd .name (.inl rfl) S27 hI2 ⟨VSub.refl _, _, rfl, rfl⟩ ?step3 ?fin3
      case step3 =>
        intro j vj g28 g29 m1 own1 news1 s E1 hj hv29 hQ11 hTj hQ13 S
        refine hide4 vj m1 own1 news1 fun XX hXX => ?_
        obtain ⟨tj, rfl⟩ := hQ11
        obtain ⟨hv28, u, rfl, rfl⟩ := hQ13
        have hv2229 := hv28.trans hv29
        have hg29 := hv2229 _ _ hg22
        have hgp29 := hv2229 _ _ hgp22
        have hv1729 := hv1722.trans hv2229
        obtain ⟨ft, hft⟩ : ∃ ft, (partsN nd)[j]? = some ft := ⟨(partsN nd)[j]'hj, by simp [hj]⟩
        obtain ⟨vq, hvq⟩ : ∃ vq, (partsL f sd)[j]? = some vq := ⟨(partsL f sd)[j]'(by rw [hpp17.length]; exact hj), by rw [List.getElem?_eq_getElem]⟩
        obtain ⟨ai, hvi, nfi, fti, Dia, Dii, Dib, rfl, hfti, hgi, hpi, hD1⟩ := (hpp17.up hv1729).get hvq
        obtain rfl : fti = ft := Option.some.inj (hfti.symm.trans hft)
        obtain ⟨v2, hv2, hrv2⟩ : ∃ v2, (partsL f2 s2)[j]? = some v2 ∧ Rd g29 v2 (.list (treeD fti)) := by
          obtain ⟨v2, e2, e3⟩ := (hpt17.up hv1729).get' (show ((partsN nd).map fun f => PyData.list (treeD f))[j]? = some (.list (treeD fti)) by rw [List.getElem?_map, hft]; rfl)
          exact ⟨v2, e2, e3⟩
        obtain ⟨ta2, rfl⟩ := hrv2.lst_ref
        obtain ⟨e1, rfl, hd2⟩ := dpN_part hft hnd hdp
        obtain ⟨e2, hto⟩ := part_ok hno hft
        have hc2 := cnt_part2 hft hnd hct
        have hv529 := hv510.trans (hv1017.trans hv1729)
        have hx29 := (hx.up hg).up hv529
        have hrk29 := (hrk.up hg).up hv529
        have hrf29 := (hrf.up hg).up hv529
        have hj2 : j < 2 ^ 62 := Nat.lt_trans hj hp2
        refine hXX _ _ _ _ ?_
        clear hXX
        walk_at "go"
        with_reducible refine s_lstN ‹Sn _ _ _ _ _› (Sn.see ‹Sn _ _ _ _ _› hg29) hj2 hvq ?_ (by with_unfolding_all rfl)
        walk_at "go"
        with_reducible refine s_lstN ‹Sn _ _ _ _ _› (Sn.see ‹Sn _ _ _ _ _› hgp29) hj2 hv2 ?_ (by with_unfolding_all rfl)
        walk_at "go"
        with_reducible refine r_callP (own := Dii) (rest := own1 ++ (own ++ (Da ++ ((dx, pcO w.params kk (.ref pa) f sd kn) :: (Dia ++ Dib) ++ Db)))) ‹Sn _ _ _ _ _› (r.le (by walk_at "le")) ?_ (IH e1 rfl g29 ai ta2 x ka fa hvi nfi e2 fti Dii _ _ ks fs hd2 hc2 hto hC hgi hpi hrv2 hx29 hrk29 hrf29) ?_
        · refine perm_c fun z => ?_
          simp +arith only [hD1, List.count_append, List.count_cons, List.cons_append]
        rintro vr s30 g30 own30 S30 hv30 hw30 ⟨rfl, rfl⟩
        walk_at "go"
        have hnt : (!true) = false := rfl
        with_reducible refine i_no hnt ?_
        walk_at "go"
        refine loop_next (g' := g30) hv30 ⟨hv2229.trans hv30, _, rfl, rfl⟩ (Sn.perm ‹Sn _ _ _ _ _› ?_)
        refine perm_c fun z => ?_
        simp +arith only [hD1, List.count_append, List.count_cons]
      case fin3 =>
        intro g28 m1 news1 s hQ4 S
        refine hide2 m1 news1 fun XX hXX => ?_
        obtain ⟨hv28, u, rfl, rfl⟩ := hQ4
        have hv1928 := hv22.trans hv28
        refine hXX _ _ ?_
        clear hXX
        walk_at "go"
        refine loop_next (g' := g28) ((hv510.trans hv1017).trans ((hv18.trans hv19).trans hv1928)) (.mk (hvs.trans (hv5.trans ((hv510.trans hv1017).trans ((hv18.trans hv19).trans hv1928)))) (hrn.up hv1928)) ‹Sn _ _ _ _ _›
  case fin =>
    rintro g4 m news s hI S
    cases hI with | @mk nv u1 u2 u3 u4 u5 u6 u7 u8 u9 u10 hvs hnow =>
    have hg4 := hv3.trans hvs
    have hga4 := hg4 _ _ hga
    have hx4 := hx.up hg4
    rw [min_self2 hvt htl, List.take_length] at hnow
    walk_at "go"
    with_reducible refine r_callP (own := D) (rest := []) ‹Sn _ _ _ _ _› (r.le (by walk_at "le")) ?_ (sp_behind_all (d := d) T hC hx4 hga4 (hpl.up hg4) htr) ?_
    · rw [List.append_nil]
    rintro vb s5 g5 own5 S5 hv5 hw5 ⟨rfl, hrb⟩
    have hsi : ∀ o : Option Int, shaped (intD o) = true := fun o => by cases o <;> rfl
    have hnow5 := hnow.up hv5
    walk_at "go"
    with_reducible refine c_eqD ‹Sn _ _ _ _ _› r hrb hnow5 (hsi _) ?_
    walk_at "go"
    refine r_leaveP ‹Sn _ _ _ _ _› en (own := own5) (rest := []) (by exact .refl _) rfl ⟨rfl, rfl⟩
theorem right_all {w : World} {G0 : Heap} (T : Tp w G0) : ∀ n, RightSpec w G0 (n + 6) n
  | 0 => sp_right1 (d := 0) T fun e h => absurd h (by walk_at "om")
  | n + 1 => sp_right1 (d := n + 1) T fun e h => by cases h; exact right_all T n


-- F21
noncomputable abbrev Tk4 := Tok × Tok × Tok × Tok
noncomputable abbrev imO (P : Params) (k : Tk4) (p n s a : Value) (m : Nat) : Obj := dictOf [dE P (Str.ofString "place") k.1 p, dE P (Str.ofString "name") k.2.1 n, dE P (Str.ofString "sort") k.2.2.1 s, dE P (Str.ofString "about") k.2.2.2 a] m
noncomputable abbrev fuO (P : Params) (k : Tk3) (p n s : Value) (m : Nat) : Obj := dictOf [dE P (Str.ofString "kind") k.1 p, dE P (Str.ofString "locals") k.2.1 n, dE P (Str.ofString "body") k.2.2 s] m
inductive ImAt (P : Params) (g : Vis) (so : Int) (ab : Value) : Value → Prop
  | mk {x dx k p n t m} : g x = some (instObj 308 dx) → g dx = some (imO P k p n (.int so t) ab m) → handedIn ab = true → ImAt P g so ab (.ref x)
inductive FuAt (P : Params) (g : Vis) (ki : Int) : Value → Prop
  | mk {x dx k n b t m} : g x = some (instObj 336 dx) → g dx = some (fuO P k (.int ki t) n b m) → FuAt P g ki (.ref x)
theorem ImAt.up {P : Params} {g g' : Vis} {so : Int} {ab v : Value} (h : VSub g g') (H : ImAt P g so ab v) : ImAt P g' so ab v := by
  cases H with | mk a b c => exact .mk (h _ _ a) (h _ _ b) c
theorem FuAt.up {P : Params} {g g' : Vis} {ki : Int} {v : Value} (h : VSub g g') (H : FuAt P g ki v) : FuAt P g' ki v := by
  cases H with | mk a b => exact .mk (h _ _ a) (h _ _ b)
theorem f_sort (P : Params) : fldB (KK P) 308 "sort" = true := by kernel_rfl
theorem f_about (P : Params) : fldB (KK P) 308 "about" = true := by kernel_rfl
theorem f_kind (P : Params) : fldB (KK P) 336 "kind" = true := by kernel_rfl
theorem f_mkinds (P : Params) : fldB (KK P) 451 "kinds" = true := by kernel_rfl
theorem f_mimports (P : Params) : fldB (KK P) 451 "imports" = true := by kernel_rfl
theorem f_mfuncs (P : Params) : fldB (KK P) 451 "funcs" = true := by kernel_rfl
theorem imO_of (P : Params) (t1 t2 t3 t4 : Tok) (p n s a : Value) : dictOf (putL (Str.ofString "about") (PyData.keyHash P (Str.ofString "about")) (.str (Str.ofString "about") t4) a (putL (Str.ofString "sort") (PyData.keyHash P (Str.ofString "sort")) (.str (Str.ofString "sort") t3) s (putL (Str.ofString "name") (PyData.keyHash P (Str.ofString "name")) (.str (Str.ofString "name") t2) n (putL (Str.ofString "place") (PyData.keyHash P (Str.ofString "place")) (.str (Str.ofString "place") t1) p [])))) (putN (Str.ofString "about") (putL (Str.ofString "sort") (PyData.keyHash P (Str.ofString "sort")) (.str (Str.ofString "sort") t3) s (putL (Str.ofString "name") (PyData.keyHash P (Str.ofString "name")) (.str (Str.ofString "name") t2) n (putL (Str.ofString "place") (PyData.keyHash P (Str.ofString "place")) (.str (Str.ofString "place") t1) p []))) (putN (Str.ofString "sort") (putL (Str.ofString "name") (PyData.keyHash P (Str.ofString "name")) (.str (Str.ofString "name") t2) n (putL (Str.ofString "place") (PyData.keyHash P (Str.ofString "place")) (.str (Str.ofString "place") t1) p [])) (putN (Str.ofString "name") (putL (Str.ofString "place") (PyData.keyHash P (Str.ofString "place")) (.str (Str.ofString "place") t1) p []) (putN (Str.ofString "place") [] 0)))) = imO P (t1, t2, t3, t4) p n s a 4 := by kernel_rfl
theorem fuO_of (P : Params) (t1 t2 t3 : Tok) (p n s : Value) : dictOf (putL (Str.ofString "body") (PyData.keyHash P (Str.ofString "body")) (.str (Str.ofString "body") t3) s (putL (Str.ofString "locals") (PyData.keyHash P (Str.ofString "locals")) (.str (Str.ofString "locals") t2) n (putL (Str.ofString "kind") (PyData.keyHash P (Str.ofString "kind")) (.str (Str.ofString "kind") t1) p []))) (putN (Str.ofString "body") (putL (Str.ofString "locals") (PyData.keyHash P (Str.ofString "locals")) (.str (Str.ofString "locals") t2) n (putL (Str.ofString "kind") (PyData.keyHash P (Str.ofString "kind")) (.str (Str.ofString "kind") t1) p [])) (putN (Str.ofString "locals") (putL (Str.ofString "kind") (PyData.keyHash P (Str.ofString "kind")) (.str (Str.ofString "kind") t1) p []) (putN (Str.ofString "kind") [] 0))) = fuO P (t1, t2, t3) p n s 3 := by kernel_rfl
set_option maxHeartbeats 1000000 in
theorem sp_iinit {w : World} {G0 : Heap} (T : Tp w G0) {d : Nat} {g : Vis} {x dx : Addr} {p n sv ab : Value} (hx : g x = some (instObj 308 dx)) : CtC pw w G0 (d + 1) (.ref 298) [.ref x, p, n, sv, ab] g [(dx, emptyDict)] (fun v _ own' => v = .none ∧ ∃ k m, own' = [(dx, imO w.params k p n sv ab m)]) := by
  refine entK (gls := []) (m := [("self", .loc (some (.ref x))), ("place", .loc (some p)), ("name", .loc (some n)), ("sort", .loc (some sv)), ("about", .loc (some ab))]) (binds := [("self", .ref x), ("place", p), ("name", n), ("sort", sv), ("about", ab)]) (rest := []) (T.K 298 o298 (by kernel_rfl)) (show o298.data = .func fd298 from rfl) T.nolim (codeRec_of T.K (by kernel_rfl)) rfl rfl rfl (fun _ _ => BindsTo.of_eq rfl) rfl (by kernel_rfl) (T.glb (by walk_at "gls")) ?_
  intro c s A r hG hgl he en S
  subst hG
  walk_at "go"
  refine r_end1 ‹Sn _ _ _ _ _› en ⟨rfl, _, _, congrArg (fun o => [(dx, o)]) (imO_of w.params _ _ _ _ p n sv ab)⟩
set_option maxHeartbeats 1000000 in
theorem sp_fuinit {w : World} {G0 : Heap} (T : Tp w G0) {d : Nat} {g : Vis} {x dx : Addr} {p n sv : Value} (hx : g x = some (instObj 336 dx)) : CtC pw w G0 (d + 1) (.ref 326) [.ref x, p, n, sv] g [(dx, emptyDict)] (fun v _ own' => v = .none ∧ ∃ k m, own' = [(dx, fuO w.params k p n sv m)]) := by
  refine entK (gls := []) (m := [("self", .loc (some (.ref x))), ("kind", .loc (some p)), ("locals_now", .loc (some n)), ("body", .loc (some sv))]) (binds := [("self", .ref x), ("kind", p), ("locals_now", n), ("body", sv)]) (rest := []) (T.K 326 o326 (by kernel_rfl)) (show o326.data = .func fd326 from rfl) T.nolim (codeRec_of T.K (by kernel_rfl)) rfl rfl rfl (fun _ _ => BindsTo.of_eq rfl) rfl (by kernel_rfl) (T.glb (by walk_at "gls")) ?_
  intro c s A r hG hgl he en S
  subst hG
  walk_at "go"
  refine r_end1 ‹Sn _ _ _ _ _› en ⟨rfl, _, _, congrArg (fun o => [(dx, o)]) (fuO_of w.params _ _ _ p n sv)⟩
theorem perm3 {α : Type} {x y z : α} : [x, y, z].Perm [z, y, x] := (List.reverse_perm [z, y, x])
theorem r_endN1 {c : Cx} {g g₀ : Vis} {m : Loc} {s : Shared} {a : Addr} {o : Obj} {news new : Led} {P : Value → Vis → Led → Led → Prop} (S : Sn c g m news s) (e : Ente c g₀ [a]) (hp : news.Perm ((a, o) :: new)) (p : P .none g [(a, o)] new) : RetQN c g₀ [a] P .next s :=
  r_leaveN (v := .none) S e (own := [(a, o)]) (new := new) (rest := []) (by rw [List.append_nil]; exact hp) rfl p
noncomputable abbrev moO (P : Params) (k : List Tok) (kv iv fv : Value) (j : List Value) (m : Nat) : Obj := dictOf [dE P (Str.ofString "kinds") (k.getD 0 0) kv, dE P (Str.ofString "imports") (k.getD 1 0) iv, dE P (Str.ofString "funcs") (k.getD 2 0) fv,  dE P (Str.ofString "tables") (k.getD 3 0) (j.getD 0 .none), dE P (Str.ofString "memories") (k.getD 4 0) (j.getD 1 .none), dE P (Str.ofString "globals") (k.getD 5 0) (j.getD 2 .none), dE P (Str.ofString "exports") (k.getD 6 0) (j.getD 3 .none), dE P (Str.ofString "start") (k.getD 7 0) .none,  dE P (Str.ofString "elems") (k.getD 8 0) (j.getD 4 .none), dE P (Str.ofString "datas") (k.getD 9 0) (j.getD 5 .none), dE P (Str.ofString "customs") (k.getD 10 0) (j.getD 6 .none)] m
theorem moO_of (P : Params) (t0 t1 t2 t3 t4 t5 t6 t7 t8 t9 t10 : Tok) (k0 k1 k2 j0 j1 j2 j3 j4 j5 j6 : Value) : dictOf (putL (Str.ofString "customs") (PyData.keyHash P (Str.ofString "customs")) (.str (Str.ofString "customs") t10) j6 (putL (Str.ofString "datas") (PyData.keyHash P (Str.ofString "datas")) (.str (Str.ofString "datas") t9) j5 (putL (Str.ofString "elems") (PyData.keyHash P (Str.ofString "elems")) (.str (Str.ofString "elems") t8) j4 (putL (Str.ofString "start") (PyData.keyHash P (Str.ofString "start")) (.str (Str.ofString "start") t7) .none (putL (Str.ofString "exports") (PyData.keyHash P (Str.ofString "exports")) (.str (Str.ofString "exports") t6) j3 (putL (Str.ofString "globals") (PyData.keyHash P (Str.ofString "globals")) (.str (Str.ofString "globals") t5) j2 (putL (Str.ofString "memories") (PyData.keyHash P (Str.ofString "memories")) (.str (Str.ofString "memories") t4) j1 (putL (Str.ofString "tables") (PyData.keyHash P (Str.ofString "tables")) (.str (Str.ofString "tables") t3) j0 (putL (Str.ofString "funcs") (PyData.keyHash P (Str.ofString "funcs")) (.str (Str.ofString "funcs") t2) k2 (putL (Str.ofString "imports") (PyData.keyHash P (Str.ofString "imports")) (.str (Str.ofString "imports") t1) k1 (putL (Str.ofString "kinds") (PyData.keyHash P (Str.ofString "kinds")) (.str (Str.ofString "kinds") t0) k0 []))))))))))) (putN (Str.ofString "customs") (putL (Str.ofString "datas") (PyData.keyHash P (Str.ofString "datas")) (.str (Str.ofString "datas") t9) j5 (putL (Str.ofString "elems") (PyData.keyHash P (Str.ofString "elems")) (.str (Str.ofString "elems") t8) j4 (putL (Str.ofString "start") (PyData.keyHash P (Str.ofString "start")) (.str (Str.ofString "start") t7) .none (putL (Str.ofString "exports") (PyData.keyHash P (Str.ofString "exports")) (.str (Str.ofString "exports") t6) j3 (putL (Str.ofString "globals") (PyData.keyHash P (Str.ofString "globals")) (.str (Str.ofString "globals") t5) j2 (putL (Str.ofString "memories") (PyData.keyHash P (Str.ofString "memories")) (.str (Str.ofString "memories") t4) j1 (putL (Str.ofString "tables") (PyData.keyHash P (Str.ofString "tables")) (.str (Str.ofString "tables") t3) j0 (putL (Str.ofString "funcs") (PyData.keyHash P (Str.ofString "funcs")) (.str (Str.ofString "funcs") t2) k2 (putL (Str.ofString "imports") (PyData.keyHash P (Str.ofString "imports")) (.str (Str.ofString "imports") t1) k1 (putL (Str.ofString "kinds") (PyData.keyHash P (Str.ofString "kinds")) (.str (Str.ofString "kinds") t0) k0 [])))))))))) (putN (Str.ofString "datas") (putL (Str.ofString "elems") (PyData.keyHash P (Str.ofString "elems")) (.str (Str.ofString "elems") t8) j4 (putL (Str.ofString "start") (PyData.keyHash P (Str.ofString "start")) (.str (Str.ofString "start") t7) .none (putL (Str.ofString "exports") (PyData.keyHash P (Str.ofString "exports")) (.str (Str.ofString "exports") t6) j3 (putL (Str.ofString "globals") (PyData.keyHash P (Str.ofString "globals")) (.str (Str.ofString "globals") t5) j2 (putL (Str.ofString "memories") (PyData.keyHash P (Str.ofString "memories")) (.str (Str.ofString "memories") t4) j1 (putL (Str.ofString "tables") (PyData.keyHash P (Str.ofString "tables")) (.str (Str.ofString "tables") t3) j0 (putL (Str.ofString "funcs") (PyData.keyHash P (Str.ofString "funcs")) (.str (Str.ofString "funcs") t2) k2 (putL (Str.ofString "imports") (PyData.keyHash P (Str.ofString "imports")) (.str (Str.ofString "imports") t1) k1 (putL (Str.ofString "kinds") (PyData.keyHash P (Str.ofString "kinds")) (.str (Str.ofString "kinds") t0) k0 []))))))))) (putN (Str.ofString "elems") (putL (Str.ofString "start") (PyData.keyHash P (Str.ofString "start")) (.str (Str.ofString "start") t7) .none (putL (Str.ofString "exports") (PyData.keyHash P (Str.ofString "exports")) (.str (Str.ofString "exports") t6) j3 (putL (Str.ofString "globals") (PyData.keyHash P (Str.ofString "globals")) (.str (Str.ofString "globals") t5) j2 (putL (Str.ofString "memories") (PyData.keyHash P (Str.ofString "memories")) (.str (Str.ofString "memories") t4) j1 (putL (Str.ofString "tables") (PyData.keyHash P (Str.ofString "tables")) (.str (Str.ofString "tables") t3) j0 (putL (Str.ofString "funcs") (PyData.keyHash P (Str.ofString "funcs")) (.str (Str.ofString "funcs") t2) k2 (putL (Str.ofString "imports") (PyData.keyHash P (Str.ofString "imports")) (.str (Str.ofString "imports") t1) k1 (putL (Str.ofString "kinds") (PyData.keyHash P (Str.ofString "kinds")) (.str (Str.ofString "kinds") t0) k0 [])))))))) (putN (Str.ofString "start") (putL (Str.ofString "exports") (PyData.keyHash P (Str.ofString "exports")) (.str (Str.ofString "exports") t6) j3 (putL (Str.ofString "globals") (PyData.keyHash P (Str.ofString "globals")) (.str (Str.ofString "globals") t5) j2 (putL (Str.ofString "memories") (PyData.keyHash P (Str.ofString "memories")) (.str (Str.ofString "memories") t4) j1 (putL (Str.ofString "tables") (PyData.keyHash P (Str.ofString "tables")) (.str (Str.ofString "tables") t3) j0 (putL (Str.ofString "funcs") (PyData.keyHash P (Str.ofString "funcs")) (.str (Str.ofString "funcs") t2) k2 (putL (Str.ofString "imports") (PyData.keyHash P (Str.ofString "imports")) (.str (Str.ofString "imports") t1) k1 (putL (Str.ofString "kinds") (PyData.keyHash P (Str.ofString "kinds")) (.str (Str.ofString "kinds") t0) k0 []))))))) (putN (Str.ofString "exports") (putL (Str.ofString "globals") (PyData.keyHash P (Str.ofString "globals")) (.str (Str.ofString "globals") t5) j2 (putL (Str.ofString "memories") (PyData.keyHash P (Str.ofString "memories")) (.str (Str.ofString "memories") t4) j1 (putL (Str.ofString "tables") (PyData.keyHash P (Str.ofString "tables")) (.str (Str.ofString "tables") t3) j0 (putL (Str.ofString "funcs") (PyData.keyHash P (Str.ofString "funcs")) (.str (Str.ofString "funcs") t2) k2 (putL (Str.ofString "imports") (PyData.keyHash P (Str.ofString "imports")) (.str (Str.ofString "imports") t1) k1 (putL (Str.ofString "kinds") (PyData.keyHash P (Str.ofString "kinds")) (.str (Str.ofString "kinds") t0) k0 [])))))) (putN (Str.ofString "globals") (putL (Str.ofString "memories") (PyData.keyHash P (Str.ofString "memories")) (.str (Str.ofString "memories") t4) j1 (putL (Str.ofString "tables") (PyData.keyHash P (Str.ofString "tables")) (.str (Str.ofString "tables") t3) j0 (putL (Str.ofString "funcs") (PyData.keyHash P (Str.ofString "funcs")) (.str (Str.ofString "funcs") t2) k2 (putL (Str.ofString "imports") (PyData.keyHash P (Str.ofString "imports")) (.str (Str.ofString "imports") t1) k1 (putL (Str.ofString "kinds") (PyData.keyHash P (Str.ofString "kinds")) (.str (Str.ofString "kinds") t0) k0 []))))) (putN (Str.ofString "memories") (putL (Str.ofString "tables") (PyData.keyHash P (Str.ofString "tables")) (.str (Str.ofString "tables") t3) j0 (putL (Str.ofString "funcs") (PyData.keyHash P (Str.ofString "funcs")) (.str (Str.ofString "funcs") t2) k2 (putL (Str.ofString "imports") (PyData.keyHash P (Str.ofString "imports")) (.str (Str.ofString "imports") t1) k1 (putL (Str.ofString "kinds") (PyData.keyHash P (Str.ofString "kinds")) (.str (Str.ofString "kinds") t0) k0 [])))) (putN (Str.ofString "tables") (putL (Str.ofString "funcs") (PyData.keyHash P (Str.ofString "funcs")) (.str (Str.ofString "funcs") t2) k2 (putL (Str.ofString "imports") (PyData.keyHash P (Str.ofString "imports")) (.str (Str.ofString "imports") t1) k1 (putL (Str.ofString "kinds") (PyData.keyHash P (Str.ofString "kinds")) (.str (Str.ofString "kinds") t0) k0 []))) (putN (Str.ofString "funcs") (putL (Str.ofString "imports") (PyData.keyHash P (Str.ofString "imports")) (.str (Str.ofString "imports") t1) k1 (putL (Str.ofString "kinds") (PyData.keyHash P (Str.ofString "kinds")) (.str (Str.ofString "kinds") t0) k0 [])) (putN (Str.ofString "imports") (putL (Str.ofString "kinds") (PyData.keyHash P (Str.ofString "kinds")) (.str (Str.ofString "kinds") t0) k0 []) (putN (Str.ofString "kinds") [] 0))))))))))) = moO P [t0, t1, t2, t3, t4, t5, t6, t7, t8, t9, t10] k0 k1 k2 [j0, j1, j2, j3, j4, j5, j6] 11 := by kernel_rfl
set_option maxHeartbeats 1000000 in
theorem sp_minit {w : World} {G0 : Heap} (T : Tp w G0) {d : Nat} {g : Vis} {n : Nat} {x dx : Addr} (hx : g x = some (instObj 451 dx)) : CtCN pw w G0 (d + 1) (.ref 354) [.ref x] g [(dx, emptyDict)] n (fun v _ own' nw => v = .none ∧ ∃ k kv j m ia fa, n ≤ ia ∧ n ≤ fa ∧ nw = [(ia, lstO [] 0), (fa, lstO [] 0)] ∧ own' = [(dx, moO w.params k kv (.ref ia) (.ref fa) j m)]) := by
  refine entKN (gls := []) (m := [("self", .loc (some (.ref x)))]) (binds := [("self", .ref x)]) (rest := []) (T.K 354 o354 (by kernel_rfl)) (show o354.data = .func fd354 from rfl) T.nolim (codeRec_of T.K (by kernel_rfl)) rfl rfl rfl (fun _ _ => BindsTo.of_eq rfl) rfl (by kernel_rfl) (T.glb (by walk_at "gls")) ?_
  intro c s A r hn hG hgl he en S
  subst hG
  walk_at "go"
  with_reducible refine r_newL ‹Sn _ _ _ _ _› ?_ (by walk_at "sz"); intro ka q0 h0 Q0
  walk_at "go"
  with_reducible refine r_newL ‹Sn _ _ _ _ _› ?_ (by walk_at "sz"); intro ia q1 h1 Q1
  walk_at "go"
  with_reducible refine r_newL ‹Sn _ _ _ _ _› ?_ (by walk_at "sz"); intro fa q2 h2 Q2
  walk_at "go"
  with_reducible refine r_newL ‹Sn _ _ _ _ _› ?_ (by walk_at "sz"); intro l0 q3 h3 Q3
  walk_at "go"
  with_reducible refine r_newL ‹Sn _ _ _ _ _› ?_ (by walk_at "sz"); intro l1 q4 h4 Q4
  walk_at "go"
  with_reducible refine r_newL ‹Sn _ _ _ _ _› ?_ (by walk_at "sz"); intro l2 q5 h5 Q5
  walk_at "go"
  with_reducible refine r_newL ‹Sn _ _ _ _ _› ?_ (by walk_at "sz"); intro l3 q6 h6 Q6
  walk_at "go"
  with_reducible refine r_newL ‹Sn _ _ _ _ _› ?_ (by walk_at "sz"); intro l4 q7 h7 Q7
  walk_at "go"
  with_reducible refine r_newL ‹Sn _ _ _ _ _› ?_ (by walk_at "sz"); intro l5 q8 h8 Q8
  walk_at "go"
  with_reducible refine r_newL ‹Sn _ _ _ _ _› ?_ (by walk_at "sz"); intro l6 q9 h9 Q9
  walk_at "go"
  refine Sn.lockK (a := ka) ‹Sn _ _ _ _ _› (by walk_at "led") h0 fun g0 _ _ Z0 => ?_
  refine Sn.lockK (a := l0) ‹Sn _ _ _ _ _› (by walk_at "led") h3 fun g3 _ _ Z3 => ?_
  refine Sn.lockK (a := l1) ‹Sn _ _ _ _ _› (by walk_at "led") h4 fun g4 _ _ Z4 => ?_
  refine Sn.lockK (a := l2) ‹Sn _ _ _ _ _› (by walk_at "led") h5 fun g5 _ _ Z5 => ?_
  refine Sn.lockK (a := l3) ‹Sn _ _ _ _ _› (by walk_at "led") h6 fun g6 _ _ Z6 => ?_
  refine Sn.lockK (a := l4) ‹Sn _ _ _ _ _› (by walk_at "led") h7 fun g7 _ _ Z7 => ?_
  refine Sn.lockK (a := l5) ‹Sn _ _ _ _ _› (by walk_at "led") h8 fun g8 _ _ Z8 => ?_
  refine Sn.lockK (a := l6) ‹Sn _ _ _ _ _› (by walk_at "led") h9 fun g9 _ _ Z9 => ?_
  refine r_endN1 Z9 en perm3 ⟨rfl, _, .ref ka, _, _, ia, fa, Nat.le_trans hn h1, Nat.le_trans hn h2, rfl, congrArg (fun o => [(dx, o)]) (moO_of w.params _ _ _ _ _ _ _ _ _ _ _ _ _ _ _ _ _ _ _ _ _)⟩
section
variable {w : World} {A : Around} {E : Value → Shared → Prop} {s : Shared} {c : Cx} {g : Vis} {m : Loc} {news : Led} {d : Nat}
theorem k_import {p n ab : Value} {so : Int} {t : Tok} {Q : Value → Shared → Prop} (S : Sn c g m news s) (r : Rm A (d + 2)) (T : Tp w c.G0) (ha : handedIn ab = true)
    (h : ∀ x s' g', VSub g g' → ImAt w.params g' so ab (.ref x) → Sn c g' m news s' → Q (.ref x) s') : wpAny (model pw w) A (call (.ref 308) [p, n, .int so t, ab]) Q E s := by
  refine o_make (fI := 298) (P := fun _ dx v _ own' => v = .none ∧ ∃ k m, own' = [(dx, imO w.params k p n (.int so t) ab m)]) S r T (by kernel_rfl) (by kernel_rfl) (by kernel_rfl) (fun x dx g' _ hx => sp_iinit (d := d) T hx) (fun _ _ _ _ _ q => q.1) ?_
  rintro x dx s' g' own' hn S' hv hx hw ⟨_, k, n, rfl⟩
  refine Sn.lockK S' .hd hn fun g2 hv2 hg2 S2 => ?_
  exact h x s' g2 (hv.trans hv2) (.mk (hv2 _ _ hx) hg2 ha) S2
theorem k_func {lo bo : Value} {ki : Int} {t : Tok} {Q : Value → Shared → Prop} (S : Sn c g m news s) (r : Rm A (d + 2)) (T : Tp w c.G0)
    (h : ∀ x s' g', VSub g g' → FuAt w.params g' ki (.ref x) → Sn c g' m news s' → Q (.ref x) s') : wpAny (model pw w) A (call (.ref 336) [.int ki t, lo, bo]) Q E s := by
  refine o_make (fI := 326) (P := fun _ dx v _ own' => v = .none ∧ ∃ k m, own' = [(dx, fuO w.params k (.int ki t) lo bo m)]) S r T (by kernel_rfl) (by kernel_rfl) (by kernel_rfl) (fun x dx g' _ hx => sp_fuinit (d := d) T hx) (fun _ _ _ _ _ q => q.1) ?_
  rintro x dx s' g' own' hn S' hv hx hw ⟨_, k, n, rfl⟩
  refine Sn.lockK S' .hd hn fun g2 hv2 hg2 S2 => ?_
  exact h x s' g2 (hv.trans hv2) (.mk (hv2 _ _ hx) hg2) S2
theorem k_module {Q : Value → Shared → Prop} (S : Sn c g m news s) (r : Rm A (d + 2)) (T : Tp w c.G0)
    (h : ∀ x dx ia fa k kv j n s' g', c.n₀ ≤ dx → c.n₀ ≤ ia → c.n₀ ≤ fa → VSub g g' → g' x = some (instObj 451 dx) → Sn c g' m ((dx, moO w.params k kv (.ref ia) (.ref fa) j n) :: (ia, lstO [] 0) :: (fa, lstO [] 0) :: news) s' → Q (.ref x) s') : wpAny (model pw w) A (call (.ref 451) []) Q E s := by
  refine o_makeN (fI := 354) (P := fun _ dx v _ own' nw => v = .none ∧ ∃ k kv j m ia fa, c.n₀ ≤ ia ∧ c.n₀ ≤ fa ∧ nw = [(ia, lstO [] 0), (fa, lstO [] 0)] ∧ own' = [(dx, moO w.params k kv (.ref ia) (.ref fa) j m)]) S r T (by kernel_rfl) (by kernel_rfl) (by kernel_rfl) (fun x dx g' _ hx => sp_minit (d := d) T hx) (fun _ _ _ _ _ _ q => q.1) ?_
  rintro x dx s' g' own' nw hn S' hv hx hw ⟨_, k, kv, j, n, ia, fa, h1, h2, rfl, rfl⟩
  exact h x dx ia fa k kv j n s' g' hn h1 h2 hv hx (S'.perm ((List.Perm.cons _ (.swap _ _ _)).trans (.swap _ _ _)))
end
inductive A2 {α β : Type} (R : α → β → Prop) : List α → List β → Prop
  | nil : A2 R [] []
  | cons {a b l r} : R a b → A2 R l r → A2 R (a :: l) (b :: r)
theorem A2.imp {α β : Type} {R R' : α → β → Prop} (f : ∀ a b, R a b → R' a b) {l : List α} {r : List β} (H : A2 R l r) : A2 R' l r := by
  induction H with
  | nil => exact .nil
  | cons a _ ih => exact .cons (f _ _ a) ih
theorem A2.len {α β : Type} {R : α → β → Prop} {l : List α} {r : List β} (H : A2 R l r) : r.length = l.length := by
  induction H with
  | nil => rfl
  | cons a _ ih => simp only [List.length_cons, ih]
theorem A2.app {α β : Type} {R : α → β → Prop} {l : List α} {r : List β} {a : α} {b : β} (H : A2 R l r) (h : R a b) : A2 R (l ++ [a]) (r ++ [b]) := by
  induction H with
  | nil => exact .cons h .nil
  | cons a _ ih => exact .cons a ih
theorem A2.get {α β : Type} {R : α → β → Prop} {l : List α} {r : List β} (H : A2 R l r) : ∀ {i : Nat} {b : β}, r[i]? = some b → ∃ a, l[i]? = some a ∧ R a b := by
  induction H with
  | nil => intro i b h; simp at h
  | cons a _ ih =>
    intro i b h
    cases i with
    | zero => cases h; exact ⟨_, rfl, a⟩
    | succ i => exact ih (i := i) (by simpa using h)
inductive Im1 (P : Params) (g : Vis) : Option Int → Value → Prop
  | fn {v a t} : ImAt P g 0 (.int a t) v → Im1 P g (some a) v
  | ot {v ab} : ImAt P g 2 ab v → Im1 P g none v
theorem Im1.up {P : Params} {g g' : Vis} (h : VSub g g') {o : Option Int} {v : Value} (H : Im1 P g o v) : Im1 P g' o v := by
  cases H with
  | fn a => exact .fn (a.up h)
  | ot a => exact .ot (a.up h)
section
variable {w : World} {A : Around} {E : Value → Shared → Prop} {s : Shared} {c : Cx} {g : Vis} {m : Loc} {news : Led} {d : Nat}
theorem im_sort {so : Int} {ab : Value} {x : Addr} {ex : Bool} {Q : Value → Shared → Prop} (S : Sn c g m news s) (T : Tp w c.G0) (H : ImAt w.params g so ab (.ref x)) (h : ∀ t s', Sn c g m news s' → Q (.int so t) s') : wpAny (model pw w) A (getAttr (.ref x) (Str.ofString "sort") ex) Q E s := by
  cases H with | @mk _ dx k p n t m a b c => exact o_getG (v := .int so t) S T a b (cls308 _) (f_sort _) (by kernel_rfl) rfl fun s' => h _ s'
theorem im_about {so : Int} {ab : Value} {x : Addr} {ex : Bool} {Q : Value → Shared → Prop} (S : Sn c g m news s) (T : Tp w c.G0) (H : ImAt w.params g so ab (.ref x)) (h : ∀ s', Sn c g m news s' → Q ab s') : wpAny (model pw w) A (getAttr (.ref x) (Str.ofString "about") ex) Q E s := by
  cases H with | mk a b c => exact o_getG S T a b (cls308 _) (f_about _) (by kernel_rfl) c h
theorem fu_kind {ki : Int} {x : Addr} {ex : Bool} {Q : Value → Shared → Prop} (S : Sn c g m news s) (T : Tp w c.G0) (H : FuAt w.params g ki (.ref x)) (h : ∀ t s', Sn c g m news s' → Q (.int ki t) s') : wpAny (model pw w) A (getAttr (.ref x) (Str.ofString "kind") ex) Q E s := by
  cases H with | @mk _ dx k n b t m a b => exact o_getG (v := .int ki t) S T a b (cls336 _) (f_kind _) (by kernel_rfl) rfl fun s' => h _ s'
end
theorem ImAt.ref {P : Params} {g : Vis} {so : Int} {ab v : Value} (H : ImAt P g so ab v) : ∃ x, v = .ref x := by cases H; exact ⟨_, rfl⟩
theorem FuAt.ref {P : Params} {g : Vis} {ki : Int} {v : Value} (H : FuAt P g ki v) : ∃ x, v = .ref x := by cases H; exact ⟨_, rfl⟩
/-- the module, seen -/
inductive MoAt (P : Params) (g : Vis) (ks : Kinds) (L : List (Option Int)) (F : List Int) : Addr → Prop
  | mk {x dx k ka ia fa j n ivs ni fvs nf} : g x = some (instObj 451 dx) → g dx = some (moO P k (.ref ka) (.ref ia) (.ref fa) j n) → Rd g (.ref ka) (.list (kindsD ks)) → g ia = some (lstO ivs ni) → A2 (Im1 P g) L ivs → g fa = some (lstO fvs nf) → A2 (FuAt P g) F fvs → MoAt P g ks L F x
theorem MoAt.up {P : Params} {g g' : Vis} {ks : Kinds} {L : List (Option Int)} {F : List Int} {x : Addr} (h : VSub g g') (H : MoAt P g ks L F x) : MoAt P g' ks L F x := by
  cases H with | mk a b c d e f i => exact .mk (h _ _ a) (h _ _ b) (c.up h) (h _ _ d) (e.imp fun _ _ q => q.up h) (h _ _ f) (i.imp fun _ _ q => q.up h)
theorem filterMap_le (L : List (Option Int)) (i : Nat) : ((L.take i).filterMap id).length ≤ L.length := Nat.le_trans (List.length_filterMap_le _ _) (by rw [List.length_take]; walk_at "om")
set_option maxHeartbeats 1000000 in
theorem sp_abouts {w : World} {G0 : Heap} (T : Tp w G0) {d : Nat} {g : Vis} {x : Addr} {ks : Kinds} {L : List (Option Int)} {F : List Int} {tk : Tok} (H : MoAt w.params g ks L F x) (hL : L.length ≤ 100) :
    Ct pw w G0 (d + 1) (.ref 366) [.ref x, .int 0 tk] g [] (fun v g' own' => Rd g' v (.list (iis (L.filterMap id)))) := by
  cases H with | @mk dx k ka ia fa j n ivs ni fvs nf h1 h2 h3 h4 h5 h6 h7 =>
  refine entC (gls := []) (m := fun L => [("self", .loc (some (.ref x))), ("sort", .cell (L + 1) (some (.int 0 tk)))]) (binds := [("self", .ref x), ("sort", .int 0 tk)]) (ns := ["self", "sort"])
    (T.K 366 o366 (by kernel_rfl)) (show o366.data = .func fd366 from rfl) T.nolim (codeRec_of T.K (by kernel_rfl)) rfl rfl rfl rfl rfl (fun L => by kernel_rfl) (by kernel_rfl) (T.glb (by walk_at "gls")) ?_
  intro c s A La r hG hgl he en S
  subst hG
  walk_at "go"
  with_reducible refine e_comp (cl := [("sort", La + 1)]) (by rw [he]; with_unfolding_all rfl) (by with_unfolding_all rfl) (by kernel_rfl) ?_ (by intro _; with_unfolding_all rfl)
  walk_at "go"
  with_reducible refine o_getG (v := .ref ia) ‹Sn _ _ _ _ _› T h1 h2 (cls451 _) (f_mimports _) (by kernel_rfl) rfl ?_; intro s1 S1
  walk_at "go"
  with_reducible refine iter_list ‹Sn _ _ _ _ _› h4 ?_; intro I o s2 S2 hI
  have hlen := h5.len
  refine comp_itr (own := []) (mc0 := [("one", .loc none), ("sort", .ro (La + 1) (.int 0 tk))]) (gls := []) itr_list (fun mc => ∃ u, mc = ([("one", .loc u), ("sort", .ro (La + 1) (.int 0 tk))] : Loc)) (fun i g2 own vs => own = [] ∧ VSub g g2 ∧ IntsAre vs ((L.take i).filterMap id)) he ?hok ?gb ?sl ⟨_, rfl⟩ r.hd .name (.inl rfl) S2 (by walk_at "led") hI ⟨rfl, VSub.refl _, .nil⟩ ?len ?step ?fin
  case hok => kernel_rfl
  case gb => exact T.glb (by walk_at "gls")
  case sl => exact .loc (by kernel_rfl) (by kernel_rfl) (.ro (by kernel_rfl) (by kernel_rfl) (by kernel_rfl) (.tail _ (.head _)) .nil)
  case len =>
    rintro i g own vs ⟨_, _, hi⟩
    have := filterMap_le L i
    rw [hi.length]; show _ < 2 ^ 24; walk_at "om"
  case step =>
    intro c' C D i v g0 g2 mc oi own' vs k' s3 E' he' hgl' hG' hi2 hv2 hP hT hQ21 hw hQ23 S'
    refine hide5 v mc oi own' vs fun XX hXX => ?_
    obtain ⟨rfl, hvg, hia⟩ := hQ21
    obtain ⟨u, rfl⟩ := hQ23
    have T' : Tp w c'.G0 := by rw [hG']; exact T
    obtain ⟨o, ho, hm⟩ := h5.get hP
    have htk : (L.take (i + 1)).filterMap id = (L.take i).filterMap id ++ o.toList := by
      rw [take_succ_get ho, List.filterMap_append]; cases o <;> rfl
    refine hXX _ _ _ _ _ ?_
    clear hXX
    cases hm with
    | @fn _ a t hm =>
      have hm := hm.up (hvg.trans hv2)
      obtain ⟨xo, rfl⟩ := hm.ref
      walk_at "go"
      with_reducible refine im_sort ‹Sn _ _ _ _ _› T' hm ?_; intro ts s4 S4
      walk_at "go"
      have h00 : ((0 : Int) == 0) = true := rfl
      with_reducible refine i_yes h00 ?_
      walk_at "go"
      with_reducible refine im_about ‹Sn _ _ _ _ _› T' hm ?_; intro s5 S5
      exact comp_next (g' := g2) (VSub.refl _) ⟨_, rfl⟩ ⟨rfl, hvg.trans hv2, by rw [htk]; exact hia.append (.cons _ _ .nil)⟩ rfl S5
    | ot hm =>
      have hm := hm.up (hvg.trans hv2)
      obtain ⟨xo, rfl⟩ := hm.ref
      walk_at "go"
      with_reducible refine im_sort ‹Sn _ _ _ _ _› T' hm ?_; intro ts s4 S4
      walk_at "go"
      have h20 : ((2 : Int) == 0) = false := rfl
      with_reducible refine i_no h20 ?_
      exact comp_next (g' := g2) (VSub.refl _) ⟨_, rfl⟩ ⟨rfl, hvg.trans hv2, by rw [htk]; simpa using hia⟩ rfl ‹Sn _ _ _ _ _›
  case fin =>
    intro D g2 own2 vs2 k2 s3 hD2 hv2 hQ8 hw2 S3
    refine hide2 own2 vs2 fun XX hXX => ?_
    obtain ⟨rfl, _, hia⟩ := hQ8
    refine Sn.lockK S3 (by walk_at "led") hD2 fun g3 hv3 hg3 S4 => ?_
    refine hXX _ _ ?_
    clear hXX
    refine r_leave S4 en .nil rfl (Rd.lst hg3 ?_)
    rw [hlen, List.take_length] at hia
    exact rd_ints hia
set_option maxHeartbeats 1000000 in
theorem sp_func_kinds {w : World} {G0 : Heap} (T : Tp w G0) {d : Nat} {g : Vis} {x : Addr} {ks : Kinds} {L : List (Option Int)} {F : List Int} (H : MoAt w.params g ks L F x) (hL : L.length ≤ 100) (hF : F.length ≤ 100) :
    Ct pw w G0 (d + 2) (.ref 371) [.ref x] g [] (fun v g' own' => Rd g' v (.list (iis (L.filterMap id ++ F)))) := by
  have HM := H
  cases H with | @mk dx k ka ia fa j n ivs ni fvs nf h1 h2 h3 h4 h5 h6 h7 =>
  refine ent (gls := [("FUNCTION", .int 0 206)]) (m := [("self", .loc (some (.ref x)))]) (binds := [("self", .ref x)]) (rest := []) (T.K 371 o371 (by kernel_rfl)) (show o371.data = .func fd371 from rfl) T.nolim (codeRec_of T.K (by kernel_rfl)) rfl rfl rfl (fun _ _ => BindsTo.of_eq rfl) rfl (by kernel_rfl) (T.glb (by walk_at "gls")) ?_
  intro c s A r hG hgl he en S
  subst hG
  obtain ⟨La, he⟩ := he
  walk_at "go"
  with_reducible refine o_methG (f := 366) ‹Sn _ _ _ _ _› T h1 h2 (cls451 _) (by kernel_rfl) (by kernel_rfl) (by kernel_rfl) ?_
  walk_at "go"
  with_reducible refine r_call0L ‹Sn _ _ _ _ _› r (sp_abouts (d := d) T HM hL) ?_
  intro a7 vs7 n7 s7 g7 S7 hv7 _ hg7 hr7
  walk_at "go"
  with_reducible refine e_comp (cl := []) (by rw [he]; with_unfolding_all rfl) (by with_unfolding_all rfl) (by kernel_rfl) ?_ (by intro _; with_unfolding_all rfl)
  walk_at "go"
  have h17 := hv7 _ _ h1
  have h27 := hv7 _ _ h2
  have h67 := hv7 _ _ h6
  with_reducible refine o_getG (v := .ref fa) ‹Sn _ _ _ _ _› T h17 h27 (cls451 _) (f_mfuncs _) (by kernel_rfl) rfl ?_; intro s1 S1
  walk_at "go"
  with_reducible refine iter_list ‹Sn _ _ _ _ _› h67 ?_; intro I o s2 S2 hI
  have hlen := h7.len
  refine comp_itr (own := []) (mc0 := [("func", .loc none)]) (gls := []) itr_list (fun mc => ∃ u, mc = ([("func", .loc u)] : Loc)) (fun i g2 own vs => own = [] ∧ VSub g g2 ∧ i ≤ F.length ∧ IntsAre vs (F.take i)) he ?hok ?gb ?sl ⟨_, rfl⟩ r.hd .name (.inl rfl) S2 (by walk_at "led") hI ⟨rfl, hv7, Nat.zero_le _, .nil⟩ ?len ?step ?fin
  case hok => kernel_rfl
  case gb => exact T.glb (by walk_at "gls")
  case sl => exact .loc (by kernel_rfl) (by kernel_rfl) .nil
  case len =>
    rintro i g own vs ⟨_, _, _, hi⟩
    rw [hi.length, List.length_take]; show _ < 2 ^ 24; walk_at "om"
  case step =>
    intro c' C D i v g0 g2 mc oi own' vs k' s3 E' he' hgl' hG' hi2 hv2 hP hT hQ21 hw hQ23 S'
    refine hide5 v mc oi own' vs fun XX hXX => ?_
    obtain ⟨rfl, hvg, hi3, hia⟩ := hQ21
    obtain ⟨u, rfl⟩ := hQ23
    have T' : Tp w c'.G0 := by rw [hG']; exact T
    obtain ⟨o, ho, hm⟩ := h7.get hP
    have hm := hm.up (hvg.trans hv2)
    obtain ⟨xo, rfl⟩ := hm.ref
    refine hXX _ _ _ _ _ ?_
    clear hXX
    walk_at "go"
    with_reducible refine fu_kind ‹Sn _ _ _ _ _› T' hm ?_; intro t5 s5 S5
    exact comp_next (g' := g2) (VSub.refl _) ⟨_, rfl⟩ ⟨rfl, hvg.trans hv2, by walk_at "om", by rw [take_succ_get ho]; exact hia.append (.cons _ _ .nil)⟩ rfl S5
  case fin =>
    intro D g2 own2 vs2 k2 s3 hD2 hv2 hQ8 hw2 S3
    refine hide2 own2 vs2 fun XX hXX => ?_
    obtain ⟨rfl, _, _, hia⟩ := hQ8
    rw [hlen, List.take_length] at hia
    have hl7 := hr7.length
    have hl8 := hia.length
    rw [List.length_map] at hl7
    have hl9 := List.length_filterMap_le id L
    refine hXX _ _ ?_
    clear hXX
    walk_at "go"
    have hg72 := hv2 _ _ hg7
    with_reducible refine b_addL S3 (S3.see hg72) (Sn.at S3 (by walk_at "led")) ?_ (by walk_at "szo"); intro ra2 s4 hra S4
    refine Sn.lockK S4 (by walk_at "led") hra fun g4 hv4 hg4 S5 => ?_
    refine r_leave S5 en .nil rfl (Rd.lst hg4 ?_)
    have := (hr7.up (hv2.trans hv4)).append (rd_ints (g := g4) hia)
    rwa [← List.map_append] at this
theorem arO_of (P : Params) (t1 t2 : Tok) (p n : Value) : dictOf (putL (Str.ofString "funcs") (PyData.keyHash P (Str.ofString "funcs")) (.str (Str.ofString "funcs") t2) n (putL (Str.ofString "kinds") (PyData.keyHash P (Str.ofString "kinds")) (.str (Str.ofString "kinds") t1) p [])) (putN (Str.ofString "funcs") (putL (Str.ofString "kinds") (PyData.keyHash P (Str.ofString "kinds")) (.str (Str.ofString "kinds") t1) p []) (putN (Str.ofString "kinds") [] 0)) = dictOf (arE P (t1, t2) p n) 2 := by kernel_rfl
set_option maxHeartbeats 1000000 in
theorem sp_ainit {w : World} {G0 : Heap} (T : Tp w G0) {d : Nat} {g : Vis} {ax dx x : Addr} {ks : Kinds} {L : List (Option Int)} {F : List Int} (hax : g ax = some (instObj 280 dx)) (H : MoAt w.params g ks L F x) (hL : L.length ≤ 100) (hF : F.length ≤ 100) :
    CtC pw w G0 (d + 3) (.ref 242) [.ref ax, .ref x] g [(dx, emptyDict)] (fun v g' own' => v = .none ∧ ∃ k n ka fa, own' = [(dx, dictOf (arE w.params k (.ref ka) (.ref fa)) n)] ∧ Rd g' (.ref ka) (.list (kindsD ks)) ∧ Rd g' (.ref fa) (.list (iis (L.filterMap id ++ F)))) := by
  have HM := H
  cases H with | @mk mdx k ka ia fa j n ivs ni fvs nf h1 h2 h3 h4 h5 h6 h7 =>
  refine entK (gls := []) (m := [("self", .loc (some (.ref ax))), ("module", .loc (some (.ref x)))]) (binds := [("self", .ref ax), ("module", .ref x)]) (rest := []) (T.K 242 o242 (by kernel_rfl)) (show o242.data = .func fd242 from rfl) T.nolim (codeRec_of T.K (by kernel_rfl)) rfl rfl rfl (fun _ _ => BindsTo.of_eq rfl) rfl (by kernel_rfl) (T.glb (by walk_at "gls")) ?_
  intro c s A r hG hgl he en S
  subst hG
  walk_at "go"
  with_reducible refine o_getG (v := .ref ka) ‹Sn _ _ _ _ _› T h1 h2 (cls451 _) (f_mkinds _) (by kernel_rfl) rfl ?_; intro s1 S1
  walk_at "go"
  with_reducible refine o_methG (f := 371) ‹Sn _ _ _ _ _› T h1 h2 (cls451 _) (by kernel_rfl) (by kernel_rfl) (by kernel_rfl) ?_
  walk_at "go"
  with_reducible refine r_call0L ‹Sn _ _ _ _ _› r (sp_func_kinds (d := d) T HM hL hF) ?_
  intro a7 _ _ s7 g7 S7 hv7 hr7 _ _
  have hr7 : Rd g7 (.ref a7) (.list (iis (L.filterMap id ++ F))) := hr7
  have hax7 := hv7 _ _ hax
  walk_at "go"
  refine r_end1 ‹Sn _ _ _ _ _› en ⟨rfl, _, _, ka, a7, congrArg (fun o => [(dx, o)]) (arO_of w.params _ _ (.ref ka) (.ref a7)), h3.up hv7, hr7⟩
theorem k_arities {w : World} {A : Around} {E : Value → Shared → Prop} {s : Shared} {c : Cx} {g : Vis} {m : Loc} {news : Led} {d : Nat} {x : Addr} {ks : Kinds} {L : List (Option Int)} {F : List Int} {Q : Value → Shared → Prop} (S : Sn c g m news s) (r : Rm A (d + 4)) (T : Tp w c.G0) (H : MoAt w.params g ks L F x) (hL : L.length ≤ 100) (hF : F.length ≤ 100)
    (h : ∀ ax s' g', VSub g g' → ArAt w.params g' ks (L.filterMap id ++ F) ax → Sn c g' m news s' → Q (.ref ax) s') : wpAny (model pw w) A (call (.ref 280) [.ref x]) Q E s := by
  refine o_make (fI := 242) (P := fun _ dx v g' own' => v = .none ∧ ∃ k n ka fa, own' = [(dx, dictOf (arE w.params k (.ref ka) (.ref fa)) n)] ∧ Rd g' (.ref ka) (.list (kindsD ks)) ∧ Rd g' (.ref fa) (.list (iis (L.filterMap id ++ F)))) S r T (by kernel_rfl) (by kernel_rfl) (by kernel_rfl) (fun ax dx g' hv hx => sp_ainit (d := d) T hx (H.up hv) hL hF) (fun _ _ _ _ _ q => q.1) ?_
  rintro ax dx s' g' own' hn S' hv hx hw ⟨_, k, n, ka, fa, rfl, h3, h4⟩
  refine Sn.lockK S' .hd hn fun g2 hv2 hg2 S2 => ?_
  exact h ax s' g2 (hv.trans hv2) (.mk (hv2 _ _ hx) hg2 (h3.up hv2) (h4.up hv2)) S2


-- F22a
theorem tree_all {w : World} {G0 : Heap} (T : Tp w G0) : ∀ dep, TreeSpec w G0 (2 * dep + 5) dep
  | 0 => sp_tree (d := 3) T (sp_node (d := 0) T fun e h => by cases h)
  | dep + 1 => sp_tree (d := 2 * dep + 5) T (sp_node (d := 2 * dep + 2) T fun e h => by cases h; exact tree_all T dep)
theorem flat_all {w : World} {G0 : Heap} (T : Tp w G0) : ∀ n, FlatSpec w G0 (n + 2) n
  | 0 => sp_flat1 (d := 0) T fun e h => by cases h
  | n + 1 => sp_flat1 (d := n + 1) T fun e h => by cases h; exact flat_all T n
mutual
theorem node_dp {nf : Int} : ∀ (n : Nd) (d : Nat), NodeOk nf d n → dpN n ≤ d
  | .leaf p, d, h => Nat.zero_le _
  | .one p f, 0, h => by unfold NodeOk at h; exact h.elim
  | .one p f, d + 1, h => by
    unfold NodeOk at h
    have := tree_dp f d h.2
    simp only [dpN]; lia
  | .two p f s, 0, h => by unfold NodeOk at h; exact h.elim
  | .two p f s, d + 1, h => by
    unfold NodeOk at h
    have := tree_dp f d h.2.1
    have := tree_dp s d h.2.2
    simp only [dpN]; lia
theorem tree_dp {nf : Int} : ∀ (t : List Nd) (d : Nat), TreeOk nf d t → dpT t ≤ d
  | [], d, h => Nat.zero_le _
  | n :: r, d, h => by
    unfold TreeOk at h
    have := node_dp n d h.1
    have := tree_dp r d h.2
    simp only [dpT]; lia
end


-- F22b
theorem rd_bools (g : Vis) : ∀ l : List Bool, RdAll g (l.map Value.bool) (l.map PyData.bool)
  | [] => .nil
  | b :: r => .cons (.bool b) (rd_bools g r)
theorem bools_lay : ∀ l : List Bool, PyData.canLayAll0 (l.map PyData.bool) = true ∧ PyData.depthAll (l.map PyData.bool) ≤ 1
  | [] => ⟨rfl, Nat.zero_le _⟩
  | b :: r => by
    obtain ⟨h1, h2⟩ := bools_lay r
    constructor
    · simp [PyData.canLayAll0, PyData.canLay0, h1]
    · simp only [List.map_cons, PyData.depthAll, PyData.depth]; lia
theorem shaped_bools (l : List Bool) : shaped (.list (l.map PyData.bool)) = true := by
  obtain ⟨a, b⟩ := bools_lay l
  simp [shaped, PyData.canLay0, PyData.depth, a]; lia
mutual
theorem low_dpN : ∀ (n : Nd) (k : Int), dpN (lowN n k) = dpN n
  | .leaf p, k => rfl
  | .one p f, k => by simp only [lowN, dpN, low_dpT f]
  | .two p f s, k => by simp only [lowN, dpN, low_dpT f, low_dpT s]
theorem low_dpT : ∀ (t : List Nd) (k : Int), dpT (lowT t k) = dpT t
  | [], k => rfl
  | n :: r, k => by simp only [lowT, dpT, low_dpN n, low_dpT r]
end
mutual
theorem low_cntN : ∀ (n : Nd) (k : Int), cntN (lowN n k) = cntN n
  | .leaf p, k => rfl
  | .one p f, k => by simp only [lowN, cntN, low_cntT f]
  | .two p f s, k => by simp only [lowN, cntN, low_cntT f, low_cntT s]
theorem low_cntT : ∀ (t : List Nd) (k : Int), cntT (lowT t k) = cntT t
  | [], k => rfl
  | n :: r, k => by simp only [lowT, cntT, low_cntN n, low_cntT r]
end
mutual
noncomputable def zN : Nd → Int → List (List Int × Int)
  | .leaf p, w => [(p, w)]
  | .one p f, w => (p, w) :: (zT f (w + 1) ++ [([11], w)])
  | .two p f s, w => (p, w) :: (zT f (w + 1) ++ ([5], w + 1) :: (zT s (w + 1) ++ [([11], w)]))
noncomputable def zT : List Nd → Int → List (List Int × Int)
  | [], _ => []
  | n :: r, w => zN n w ++ zT r w
end
noncomputable def zW (w : Int) (L : List (List Int)) : List (List Int × Int) := L.zip (withinL w L)
theorem zW_cons (w : Int) (p : List Int) (L : List (List Int)) : zW w (p :: L) = (p, stepA w p) :: zW (stepB (stepA w p) p) L := rfl
theorem zW_end (w : Int) (L : List (List Int)) : zW w ([11] :: L) = ([11], w - 1) :: zW (w - 1) L := by
  rw [zW_cons]
  have e1 : stepA w [11] = w - 1 := by simp [stepA]
  have e2 : stepB (w - 1) [11] = w - 1 := by simp [stepB]
  rw [e1, e2]
theorem zW_else (w : Int) (L : List (List Int)) : zW w ([5] :: L) = ([5], w) :: zW w L := by
  rw [zW_cons]
  have e1 : stepA w [5] = w := by simp [stepA]
  have e2 : stepB w [5] = w := by simp [stepB]
  rw [e1, e2]
theorem zW_open (w b : Int) (l : List Int) (L : List (List Int)) (hb : b = 2 ∨ b = 3 ∨ b = 4) : zW w ((b :: l) :: L) = (b :: l, w) :: zW (w + 1) L := by
  rw [zW_cons]
  have e1 : stepA w (b :: l) = w := by rcases hb with rfl | rfl | rfl <;> simp [stepA]
  have e2 : stepB w (b :: l) = w + 1 := by rcases hb with rfl | rfl | rfl <;> simp [stepB]
  rw [e1, e2]
theorem zW_leaf {nf : Int} (w : Int) {p : List Int} (L : List (List Int)) (h : LeafOk nf p) : zW w (p :: L) = (p, w) :: zW w L := by
  obtain ⟨h1, _, h3⟩ := leaf_head h
  obtain ⟨h4, _⟩ := leaf_len h
  cases p with
  | nil => exact absurd rfl h4
  | cons c l =>
    simp only [List.headD_cons, List.mem_cons, List.not_mem_nil, or_false, not_or] at h1 h3
    rw [zW_cons]
    have e1 : stepA w (c :: l) = w := by simp [stepA, h3]
    have e2 : stepB w (c :: l) = w := by simp [stepB, h1]
    rw [e1, e2]
mutual
theorem zip_N {nf : Int} : ∀ (n : Nd) (d : Nat) (w : Int) (R : List (List Int)), NodeOk nf d n → zW w (flatN n ++ R) = zN n w ++ zW w R
  | .leaf p, d, w, R, h => by
    have h' : LeafOk nf p := by unfold NodeOk at h; exact h
    exact zW_leaf w R h'
  | .one p f, 0, w, R, h => by unfold NodeOk at h; exact h.elim
  | .one p f, d + 1, w, R, h => by
    unfold NodeOk at h
    obtain ⟨⟨b, a, rfl, hb, _⟩, ht⟩ := h
    show zW w ([b, a] :: ((flatT f ++ [[11]]) ++ R)) = _
    rw [zW_open _ _ _ _ hb, List.append_assoc, zip_T f d (w + 1) _ ht]
    show _ :: (zT f (w + 1) ++ zW (w + 1) ([11] :: R)) = _
    rw [zW_end, Int.add_sub_cancel]
    simp [zN]
  | .two p f s, 0, w, R, h => by unfold NodeOk at h; exact h.elim
  | .two p f s, d + 1, w, R, h => by
    unfold NodeOk at h
    obtain ⟨⟨a, rfl, _⟩, ht, hs⟩ := h
    have e : flatN (.two [4, a] f s) ++ R = [4, a] :: (flatT f ++ ([5] :: (flatT s ++ ([11] :: R)))) := by simp [flatN]
    rw [e, zW_open _ _ _ _ (.inr (.inr rfl)), zip_T f d (w + 1) _ ht, zW_else, zip_T s d (w + 1) _ hs, zW_end, Int.add_sub_cancel]
    simp [zN]
theorem zip_T {nf : Int} : ∀ (t : List Nd) (d : Nat) (w : Int) (R : List (List Int)), TreeOk nf d t → zW w (flatT t ++ R) = zT t w ++ zW w R
  | [], d, w, R, h => by simp [flatT, zT]
  | n :: r, d, w, R, h => by
    unfold TreeOk at h
    have e : flatT (n :: r) ++ R = flatN n ++ (flatT r ++ R) := by simp [flatT]
    rw [e, zip_N n d w _ h.1, zip_T r d w R h.2]; simp [zT]
end
theorem reach_iff (k w : Int) (p : List Int) : k ∈ reach1 (p, w) ↔ inL (k + w) (labelsOf p) = true := by
  unfold reach1 inL labelsOf
  by_cases h : isBr p = true
  · simp only [h, if_true, List.mem_map, decide_eq_true_eq]
    constructor
    · rintro ⟨a, ha, rfl⟩
      have : a - w + w = a := by lia
      rw [this]; exact ha
    · intro ha
      exact ⟨k + w, ha, by lia⟩
  · simp only [Bool.not_eq_true] at h
    simp [h]
theorem reach_c (k w : Int) : ¬ k ∈ reach1 ([11], w) ∧ ¬ k ∈ reach1 ([5], w) := by constructor <;> simp [reach1, isBr]
mutual
theorem reachN : ∀ (n : Nd) (k w : Int), k ∈ (zN n w).flatMap reach1 ↔ namedN n (k + w) = true
  | .leaf p, k, w => by simp only [zN, namedN, List.flatMap_cons, List.flatMap_nil, List.append_nil]; exact reach_iff k w p
  | .one p f, k, w => by
    simp only [zN, namedN, List.flatMap_cons, List.flatMap_append, List.flatMap_nil, List.append_nil, List.mem_append, Bool.or_eq_true]
    rw [reach_iff, reachT f k (w + 1), ← Int.add_assoc]
    simp [(reach_c k w).1]
  | .two p f s, k, w => by
    simp only [zN, namedN, List.flatMap_cons, List.flatMap_append, List.flatMap_nil, List.append_nil, List.mem_append, Bool.or_eq_true]
    rw [reach_iff, reachT f k (w + 1), reachT s k (w + 1), ← Int.add_assoc]
    simp [(reach_c k w).1, (reach_c k (w + 1)).2]
theorem reachT : ∀ (t : List Nd) (k w : Int), k ∈ (zT t w).flatMap reach1 ↔ namedT t (k + w) = true
  | [], k, w => by simp [zT, namedT]
  | n :: r, k, w => by
    simp only [zT, namedT, List.flatMap_append, List.mem_append, Bool.or_eq_true]
    rw [reachN n k w, reachT r k w]
end
theorem named_eq {nf : Int} {d : Nat} {t : List Nd} (h : TreeOk nf d t) (k : Int) (_hk : 0 ≤ k) : namedT t k = decide (k ∈ reachedL (flatT t ++ [[11]])) := by
  have e : reachedL (flatT t ++ [[11]]) = (zT t 0 ++ zW 0 [[11]]).flatMap reach1 := by rw [← zip_T t d 0 [[11]] h]; rfl
  have e2 : k ∈ reachedL (flatT t ++ [[11]]) ↔ namedT t k = true := by
    rw [e, List.flatMap_append, List.mem_append, reachT t k 0, zW_end, Int.add_zero]
    have : (([11], (0 : Int) - 1) :: zW (0 - 1) []).flatMap reach1 = [] := rfl
    rw [this]; simp
  cases hn : namedT t k with
  | true => exact (decide_eq_true (e2.mpr hn)).symm
  | false => exact (decide_eq_false fun q => by rw [e2.mp q] at hn; cases hn).symm
theorem lower_iff (dep w : Int) (p : List Int) : lower1 dep (p, w) = lowP (dep + w) p := by
  unfold lower1 lowP labelsOf
  by_cases h : isBr p = true
  · simp only [h, if_true]
    cases p with
    | nil => simp [isBr] at h
    | cons c l =>
      cases l with
      | nil => simp
      | cons a r =>
        simp only [List.tail_cons, List.cons_ne_nil, reduceCtorEq, if_false]
        congr 1
        refine List.map_congr_left fun l _ => ?_
        by_cases q : l - w > dep
        · have q2 : l > dep + w := by lia
          simp only [q, q2, if_true]
        · have q2 : ¬ l > dep + w := by lia
          simp only [q, q2, if_false]; lia
  · simp only [Bool.not_eq_true] at h
    simp [h]
theorem lower_c (dep w : Int) : lower1 dep ([11], w) = [11] ∧ lower1 dep ([5], w) = [5] := by constructor <;> simp [lower1, isBr]
mutual
theorem lowerN : ∀ (n : Nd) (dep w : Int), (zN n w).map (lower1 dep) = flatN (lowN n (dep + w))
  | .leaf p, dep, w => by simp only [zN, lowN, flatN, List.map_cons, List.map_nil, lower_iff]
  | .one p f, dep, w => by
    simp only [zN, lowN, flatN, List.map_cons, List.map_append, List.map_nil, lower_iff, lowerT f dep (w + 1), ← Int.add_assoc, (lower_c dep w).1]
  | .two p f s, dep, w => by
    simp only [zN, lowN, flatN, List.map_cons, List.map_append, List.map_nil, lowerT f dep (w + 1), lowerT s dep (w + 1), ← Int.add_assoc, (lower_c dep w).1, (lower_c dep (w + 1)).2]
    rw [lower_iff]; simp
theorem lowerT : ∀ (t : List Nd) (dep w : Int), (zT t w).map (lower1 dep) = flatT (lowT t (dep + w))
  | [], dep, w => rfl
  | n :: r, dep, w => by simp only [zT, lowT, flatT, List.map_append, lowerN n, lowerT r]
end
theorem low_eq {nf : Int} {d : Nat} {t : List Nd} (h : TreeOk nf d t) (k : Int) (_hk : 0 ≤ k) : flatT (lowT t k) ++ [[11]] = loweredL k (flatT t ++ [[11]]) := by
  have e : loweredL k (flatT t ++ [[11]]) = (zT t 0 ++ zW 0 [[11]]).map (lower1 k) := by rw [← zip_T t d 0 [[11]] h]; rfl
  rw [e, List.map_append, lowerT t k 0, zW_end, Int.add_zero]
  have : zW (0 - 1) [] = [] := rfl
  rw [this, List.map_cons, (lower_c k (0 - 1)).1]; rfl


-- F22
local macro_rules | `(tactic| walk_at "sl") => `(tactic| repeat (first | exact List.Sublist.refl _ | exact List.sublist_append_left _ _ | apply List.Sublist.cons))
section
variable {w : World} {A : Around} {E : Value → Shared → Prop} {s : Shared} {c : Cx} {g : Vis} {m : Loc} {news : Led} {d : Nat}
/-- l[::-1] -/
theorem e_rev {a : Addr} {vs : List Value} {p : Pos} {e value : Expr} {Q : Value → Shared → Prop} (hsz : vs.length ≤ sizeLine)
    (h : wpAny (model pw w) A (eval e c.env) (fun u s₁ => ∃ g m news n, ∃ (t : Tok), u = .int (-1) t ∧ Sn c g m news s₁ ∧ s₁.heap.get? a = some (lstO vs n) ∧ ∀ r s', c.n₀ ≤ r → Sn c g m ((r, lstO vs.reverse 0) :: news) s' → Q (.ref r) s') E s) :
    wpAny (model pw w) A (eval (.Slice none none (some e) p) c.env) (fun i s₂ => wpAny (model pw w) A (subscriptTail value (.Slice none none (some e) p) (.ref a) i) Q E s₂) E s := by
  refine wpAny_Slice (part_none (part_none (part_some (wpAny_mono h (fun u s₁ q => ?_) fun _ _ e => e))))
  obtain ⟨g, m, news, n, t, rfl, S, hg, q⟩ := q
  have hl : (s₁.heap.push { cls := .type "slice", data := .fields #[.none, .none, .int (-1) t] }).IsList a vs.toArray := ⟨_, Heap.get?_push_of_some _ hg, rfl, n, rfl⟩
  have S2 := S.push (tk := s₁.toks) (o := { cls := .type "slice", data := .fields #[.none, .none, .int (-1) t] }) rfl
  refine tail_any (s := { s₁ with heap := s₁.heap.push { cls := .type "slice", data := .fields #[.none, .none, .int (-1) t] } }) hl.typeIs slot_list_getitem.lookup (wpAny_getItem_list_slice hl (Heap.IsSliceOf.new ..) .none .none (.int _ _) (by simp) ?_ (by simpa using hsz)) (by with_unfolding_all rfl)
  rw [krv_pick]
  have S3 := S2.push (tk := s₁.toks) (o := lstO vs.reverse 0) rfl
  have := q _ _ S2.sz (S3.drop (news' := (_, lstO vs.reverse 0) :: news) ((List.sublist_cons_self _ _).cons_cons _))
  simpa using this
theorem foldl_rep (v : Value) : ∀ (k : Nat) (a : Array Value), List.foldl (fun x1 x2 => x1 ++ x2) a (List.replicate k [v].toArray) = (a.toList ++ List.replicate k v).toArray
  | 0, a => by simp
  | k + 1, a => by
    rw [List.replicate_succ, List.foldl_cons, foldl_rep v k]
    simp [List.replicate_succ]
theorem b_mul1 {a : Addr} {v : Value} {n : Nat} {x : Int} {t : Tok} {Q : Value → Shared → Prop} (S : Sn c g m news s) (ha : s.heap.get? a = some (lstO [v] n)) (h0 : 0 ≤ x) (h1 : x ≤ 100)
    (h : ∀ r s', c.n₀ ≤ r → Sn c g m ((r, lstO (List.replicate x.toNat v) 0) :: news) s' → Q (.ref r) s') : wpAny (model pw w) A (binaryOp .Mult (.ref a) (.int x t)) Q E s := by
  refine mul_list (items := [v].toArray) S.fr.1 S.fr.2 ha (by walk_at "om") (by walk_at "om") (by simp; walk_at "om") fun h' F N => h _ _ S.sz ?_
  have := S.ofFr1 (tk := s.toks) (Nat.le_refl _) F N
  have e : List.foldl (fun x1 x2 => x1 ++ x2) (#[] : Array Value) (List.replicate (if [v].toArray.isEmpty = true then 0 else x.toNat) [v].toArray) = (List.replicate x.toNat v).toArray := by
    rw [foldl_rep]; simp
  rw [e] at this
  exact this
theorem b_pow {t u : Tok} {Q : Value → Shared → Prop} (S : Sn c g m news s) (h : ∀ s' k, Sn c g m news s' → Q (.int (2 ^ 70) k) s') : wpAny (model pw w) A (binaryOp .Pow (.int 2 t) (.int 70 u)) Q E s :=
  AutoIntOps.pow_4 (by decide) (by decide) (by decide) (by decide) (by decide) (h _ _ S.tick)
theorem r_listL {a : Addr} {vs : List Value} {n : Nat} {Q : Value → Shared → Prop} (S : Sn c g m news s) (ha : s.heap.get? a = some (lstO vs n)) (hsz : vs.length ≤ sizeLine)
    (h : ∀ r k s', c.n₀ ≤ r → Sn c g m ((r, lstO vs k) :: news) s' → Q (.ref r) s') : wpAny (model pw w) A (call (.type "list") [.ref a]) Q E s :=
  call_list_seq (hsz := by simpa using hsz) a (.inl rfl) ha rfl rfl fun h' c' hk hD => h _ c' _ S.sz (S.ofFr1 (tk := s.toks) (Nat.le_refl _) (S.fr.1.keeps hk) (news_pushed S.fr.1 S.fr.2 hk hD rfl))
noncomputable abbrev eD : Obj := { cls := .type "dict", data := .dict #[] }
/-- a display with str keys -/
theorem e_dict {keys : List (Option Expr)} {values : List Expr} {pos : Pos} {Q : Value → Shared → Prop} (S : Sn c g m news s) (hall : keys.all (·.isSome) = true) (hl : keys.length = values.length) (h0 : keys ≠ []) (hlen : keys.length ≤ 15)
    (h : ∀ d s', c.n₀ ≤ d → Sn c g m ((d, eD) :: news) s' → wpAny (model pw w) A (evalPairs (pairTrees keys values c.env pos)) (fun vs s₁ => ∃ g' m' n', Sn c g' m' n' s₁ ∧ LMem d eD n' ∧ allStrKeys vs = true ∧ ((strPairs vs).map (·.1)).Nodup ∧
      ∀ o s2, o.IsDictOf (strKind pw w) (strPairs vs) → (∀ news', LUp d eD o n' news' → Sn c g' m' news' s2) → Q (.ref d) s2) E s') :
    wpAny (model pw w) A (eval (.Dict keys values pos) c.env) Q E s := by
  refine wpAny_Dict_walk (knd := strKind pw w) hall hl h0 hlen ?_
  refine wpAny_mono (h _ _ S.sz (S.push (tk := s.toks) rfl)) (fun vs s₁ q => ?_) fun _ _ e => e
  obtain ⟨g', m', n', S', hm, hk, hn, q⟩ := q
  refine display_done_str hk hn (Heap.dictOf_iff.mpr ⟨eD, S'.at hm, ?_⟩) fun h' hmm hs => ?_
  · obtain ⟨o, ho, hd⟩ := Heap.dictOf_iff.mp (Heap.DictOf.new (knd := strKind pw w) s.heap)
    have : o = eD := by
      have e : (s.heap.push eD).get? s.heap.objs.size = some eD := (S.push (tk := s.toks) (o := eD) rfl).at .hd
      exact Option.some.inj (ho.symm.trans e)
    rw [← this]; exact hd
  · obtain ⟨o', ho', hd'⟩ := Heap.dictOf_iff.mp hmm
    exact q o' _ hd' fun news' u => S'.chg u hs ho'
end
noncomputable abbrev mL (L : Addr) (sc dr mo ka fu k ab de he tr fl bo pi re : Option Value) : Loc := [("script", .loc sc), ("draw", .loc dr), ("module", .loc mo), ("kinds", .loc ka), ("funcs", .loc fu), ("k", .loc k), ("about", .loc ab), ("depth", .loc de), ("height", .loc he),  ("tree", .loc tr), ("flat", .loc fl), ("body", .loc bo), ("pieces", .cell (L + 1) pi), ("reached", .cell (L + 1 + 1) re)]
noncomputable abbrev moE (P : Params) (k : List Tok) (kv iv fv : Value) (j : List Value) : List DictEntry := [dE P (Str.ofString "kinds") (k.getD 0 0) kv, dE P (Str.ofString "imports") (k.getD 1 0) iv, dE P (Str.ofString "funcs") (k.getD 2 0) fv,  dE P (Str.ofString "tables") (k.getD 3 0) (j.getD 0 .none), dE P (Str.ofString "memories") (k.getD 4 0) (j.getD 1 .none), dE P (Str.ofString "globals") (k.getD 5 0) (j.getD 2 .none), dE P (Str.ofString "exports") (k.getD 6 0) (j.getD 3 .none), dE P (Str.ofString "start") (k.getD 7 0) .none,  dE P (Str.ofString "elems") (k.getD 8 0) (j.getD 4 .none), dE P (Str.ofString "datas") (k.getD 9 0) (j.getD 5 .none), dE P (Str.ofString "customs") (k.getD 10 0) (j.getD 6 .none)]
theorem moO_setK (P : Params) (k : List Tok) (kv iv fv : Value) (j : List Value) (n : Nat) (tk : Tok) (v : Value) : dictOf (putL (Str.ofString "kinds") (PyData.keyHash P (Str.ofString "kinds")) (.str (Str.ofString "kinds") tk) v (moE P k kv iv fv j)) (putN (Str.ofString "kinds") (moE P k kv iv fv j) n) = moO P k v iv fv j n := by kernel_rfl
theorem draw_setF {w : World} {tA : Addr} {left funcs f' : Int} {t : Tok} {oD oD' : Obj} {t1 t2 : Tok} (_h : oD.IsDictOf (strKind pw w) [(("tape" : Str), .ref tA), (("left" : Str), .int left t1), (("funcs" : Str), .int funcs t2)])
    (h : oD'.IsDictOf (strKind pw w) (stored [(("tape" : Str), .ref tA), (("left" : Str), .int left t1), (("funcs" : Str), .int funcs t2)] "funcs" (.int f' t))) : DrawD w tA left f' oD' := ⟨t1, t, h⟩
theorem rd_rep (g : Vis) (i : Int) (t : Tok) : ∀ k : Nat, RdAll g (List.replicate k (.int i t)) (iis (List.replicate k i))
  | 0 => .nil
  | k + 1 => .cons (.int _ _) (rd_rep g i t k)
theorem kindsD_app (a b : Kinds) : kindsD (a ++ b) = kindsD a ++ kindsD b := List.map_append
theorem Sn.pickD {c : Cx} {g : Vis} {m : Loc} {news own rest pk : Led} {s : Shared} (S : Sn c g m news s) (hp : Pick pk news rest) (hs : own.Sublist rest) : Sn c g m (own ++ pk) s :=
  ((S.perm hp.perm).drop (List.Sublist.append_left hs pk)).perm List.perm_append_comm
noncomputable def CtxK (ks : Kinds) : Prop := ∀ k ∈ ks, k.1.length ≤ 3 ∧ k.2.length ≤ 2
set_option maxHeartbeats 4000000 in
theorem sp_law {w : World} {G0 : Heap} (T : Tp w G0) (g : Vis) (t : Addr) (vs : List Value) (ns : List Int) (n : Nat) (hgt : g t = some (lstO vs n)) (hvs : IntsAre vs ns) (hns : ns.length ≤ 63) :
    Ct pw w G0 40 (.ref 539) [.ref t] g [] fun v _ _ => v = .bool true := by
  refine entC (gls := [("Module", .ref 451), ("range", .type "range"), ("tuple", .type "tuple"), ("_law_next", .ref 467), ("Import", .ref 308), ("Func", .ref 336), ("len", .builtin "len"), ("_law_tree", .ref 500), ("_law_flat", .ref 507), ("list", .type "list"), ("pieces_of", .ref 202),  ("_law_is_right", .ref 534), ("Arities", .ref 280), ("body_of", .ref 216), ("_law_reached", .ref 519), ("lower_labels", .ref 228), ("_law_lowered", .ref 524)])
    (m := fun L => mL L (some (.ref t)) none none none none none none none none none none none none none) (binds := [("script", .ref t)]) (ns := ["script", "draw", "module", "kinds", "funcs", "k", "about", "depth", "height", "tree", "flat", "body", "pieces", "reached"])
    (T.K 539 o539 (by kernel_rfl)) (show o539.data = .func fd539 from rfl) T.nolim (codeRec_of T.K (by kernel_rfl)) rfl rfl rfl rfl rfl (fun L => by kernel_rfl) (by kernel_rfl) (T.glb (by walk_at "gls")) ?_
  intro c s A L r hG hgl he en S
  subst hG
  walk_at "go"
  have hk3 : ∀ a b c : Expr, ([some a, some b, some c] : List (Option Expr)).all (·.isSome) = true := fun _ _ _ => rfl
  have hk4 : ∀ (a b c : Option Expr), ([a, b, c] : List (Option Expr)) ≠ [] := fun _ _ _ => by simp
  have hk5 : ∀ (a b c : Option Expr), ([a, b, c] : List (Option Expr)).length ≤ 15 := fun _ _ _ => by simp
  with_reducible refine e_dict ‹Sn _ _ _ _ _› (hk3 _ _ _) rfl (hk4 _ _ _) (hk5 _ _ _) ?_
  intro dA s1 hdA S1
  with_reducible refine pairTrees_cons_walk ?_
  walk_at "go"
  with_reducible refine e_rev (vs := vs) ?_ ?_
  · have := hvs.length; simp only [sizeLine]; walk_at "om"
  walk_at "go"
  refine ⟨_, _, _, n, _, rfl, by assumption, Sn.see ‹Sn _ _ _ _ _› hgt, ?_⟩
  intro tA s2 htA S2
  with_reducible refine pairTrees_cons_walk ?_
  walk_at "go"
  with_reducible refine pairTrees_cons_walk ?_
  walk_at "go"
  with_reducible refine pairTrees_nil_walk ?_
  refine ⟨_, _, _, ‹Sn _ _ _ _ _›, by walk_at "led", rfl, (by show ([("tape" : Str), "left", "funcs"] : List Str).Nodup; decide), ?_⟩
  intro oD s3 hD S3
  have S3 := S3 [(tA, lstO vs.reverse 0), (dA, oD)] (by walk_at "led")
  have hD : DrawD w tA 24 1 oD := ⟨_, _, hD⟩
  walk_at "go"
  with_reducible refine x_tupS (ns := ["module", "kinds", "funcs"]) (by with_unfolding_all rfl) (by rw [he]; with_unfolding_all rfl) (fun _ _ => ?_)
  walk_at "go"
  with_reducible refine k_module (d := 0) ‹Sn _ _ _ _ _› (r.le (by walk_at "le")) T ?_
  intro mx mdx ia fa km kmv jm nm s4 g4 hmdx hia hfa hv4 hmx S4
  walk_at "go"
  with_reducible refine r_newL ‹Sn _ _ _ _ _› ?_ (by walk_at "sz"); intro KA s5 hKA S5
  walk_at "go"
  with_reducible refine r_newL ‹Sn _ _ _ _ _› ?_ (by walk_at "sz"); intro FA s6 hFA S6
  walk_at "go"
  with_reducible refine r_newT ‹Sn _ _ _ _ _› ?_ (by walk_at "sz"); intro ta s7 hta S7
  with_reducible refine u_tup ‹Sn _ _ _ _ _› r.hd (Sn.at ‹Sn _ _ _ _ _› (by walk_at "led")) (by with_unfolding_all rfl) ?_; intro s8 S8
  have S9 := S8.drop (List.sublist_cons_self _ _)
  clear S8 S7 S6 S5 S4 S3 S2 S1 S
  simp only [List.reverse_cons, List.reverse_nil, List.nil_append, List.cons_append]
  walk_at "go"
  with_reducible refine call_range ‹Sn _ _ _ _ _› ?_; intro ra s10 _ _ _ S10
  with_reducible refine iter_range S10 .hd (by decide) (by decide) ?_; intro I1 o1 s11 S11 hI1
  have hTk : TapeOk vs.reverse := ⟨ns.reverse, hvs.reverse, by rw [List.length_reverse]; walk_at "om"⟩
  refine for_itr itr_range (fun i g' m news => VSub g4 g' ∧ ∃ tv tn kv kn ks u, CtxK ks ∧ ks.length = i ∧ i ≤ 3 ∧ TapeOk tv ∧ RdAll g' kv (kindsD ks) ∧ m = mL L (some (.ref t)) (some (.ref dA)) (some (.ref mx)) (some (.ref KA)) (some (.ref FA)) u none none none none none none none none ∧  news = [(FA, lstO [] 0), (KA, lstO kv kn), (mdx, moO w.params km kmv (.ref ia) (.ref fa) jm nm), (ia, lstO [] 0), (fa, lstO [] 0), (tA, lstO tv tn), (dA, oD)]) r.hd .name (.inl rfl) S11 hI1 ⟨VSub.refl _, _, _, _, _, [], _, (fun _ h => nomatch h), rfl, Nat.zero_le _, hTk, .nil, rfl, rfl⟩ ?step1 ?fin1
  case step1 =>
    intro i v g5 g6 m own news s E' hi hv6 hQ11 hT hQ13 S
    refine hide4 v m own news fun XX hXX => ?_
    obtain ⟨tv, rfl⟩ := hQ11
    obtain ⟨hv5, tpv, tpn, kv, kn, ks, u, hks, hki, hi3, htp, hrk, rfl, rfl⟩ := hQ13
    refine hXX _ _ _ _ ?_
    clear hXX
    walk_at "go"
    with_reducible refine r_newL ‹Sn _ _ _ _ _› ?_ (by walk_at "sz"); intro l1 s1 hl1 S1
    walk_at "go"
    with_reducible refine r_next (d := 0) ‹Sn _ _ _ _ _› (r.le (by walk_at "le")) (by walk_at "led") T (by decide) hD htp ?_
    intro k1 tk1 tpv2 tpn2 s2 g2 hk1 hk1' htp2 hv2 S2
    walk_at "go"
    with_reducible refine b_mul1 ‹Sn _ _ _ _ _› (Sn.at ‹Sn _ _ _ _ _› (by walk_at "led")) hk1 (by walk_at "om") ?_; intro l2 s3 hl2 S3
    walk_at "go"
    with_reducible refine r_tupL ‹Sn _ _ _ _ _› (Sn.at ‹Sn _ _ _ _ _› (by walk_at "led")) ?_ (by simp only [List.length_replicate, sizeLine]; walk_at "om"); intro p1 s4 hp1 S4
    refine Sn.lockK S4 (by walk_at "led") hp1 fun g7 hv7 hg7 S5 => ?_
    clear S4 S3 S2 S1 S
    walk_at "go"
    with_reducible refine r_newL ‹Sn _ _ _ _ _› ?_ (by walk_at "sz"); intro l3 s6 hl3 S6
    walk_at "go"
    with_reducible refine r_next (d := 0) ‹Sn _ _ _ _ _› (r.le (by walk_at "le")) (by walk_at "led") T (by decide) hD htp2 ?_
    intro k2 tk2 tpv3 tpn3 s7 g8 hk2 hk2' htp3 hv8 S7
    walk_at "go"
    with_reducible refine b_mod ‹Sn _ _ _ _ _› (by decide) ?_; intro s8 t8 S8
    walk_at "go"
    have hm0 := Int.fmod_nonneg_of_pos (k2 + 1) (show (0 : Int) < 3 by decide)
    have hm1 := Int.fmod_lt_of_pos (k2 + 1) (show (0 : Int) < 3 by decide)
    with_reducible refine b_mul1 ‹Sn _ _ _ _ _› (Sn.at ‹Sn _ _ _ _ _› (by walk_at "led")) hm0 (by walk_at "om") ?_; intro l4 s9 hl4 S9
    walk_at "go"
    with_reducible refine r_tupL ‹Sn _ _ _ _ _› (Sn.at ‹Sn _ _ _ _ _› (by walk_at "led")) ?_ (by simp only [List.length_replicate, sizeLine]; walk_at "om"); intro p2 s10 hp2 S10
    refine Sn.lockK S10 (by walk_at "led") hp2 fun g9 hv9 hg9 S11 => ?_
    clear S10 S9 S8 S7 S6 S5
    walk_at "go"
    with_reducible refine r_newT ‹Sn _ _ _ _ _› ?_ (by walk_at "sz"); intro p3 s12 hp3 S12
    refine Sn.lockK S12 (by walk_at "led") hp3 fun g10 hv10 hg10 S13 => ?_
    walk_at "go"
    with_reducible refine r_app ‹Sn _ _ _ _ _› (by walk_at "led") ?_ (by rw [hrk.length, List.length_map, hki]; simp only [sizeLine]; walk_at "om"); intro s14 S14
    walk_at "go"
    have hv610 := hv2.trans (hv7.trans (hv8.trans (hv9.trans hv10)))
    refine loop_next (g' := g10) hv610 ⟨(hv5.trans hv6).trans hv610, tpv3, tpn3, kv ++ [.ref p3], kn + 1, ks ++ [(List.replicate k1.toNat (-1), List.replicate ((k2 + 1).fmod 3).toNat (-2))], _, ?_, by simp [hki], by walk_at "om", htp3, ?_, rfl, rfl⟩ (Sn.pickD (pk := [(FA, lstO [] 0), (KA, lstO (kv ++ [.ref p3]) (kn + 1)), (mdx, moO w.params km kmv (.ref ia) (.ref fa) jm nm), (ia, lstO [] 0), (fa, lstO [] 0), (tA, lstO tpv3 tpn3), (dA, oD)]) S14 (by walk_at "led") (by walk_at "sl"))
    · intro k hk
      rcases List.mem_append.mp hk with q | q
      · exact hks k q
      · rw [List.mem_singleton.mp q]
        simp only [List.length_replicate]; walk_at "om"
    · rw [kindsD_app]
      refine (hrk.up (hv6.trans hv610)).append (.cons (.tup hg10 (.cons (.tup ((hv8.trans (hv9.trans hv10)) _ _ hg7) (rd_rep _ _ _ _)) (.cons (.tup (hv10 _ _ hg9) (rd_rep _ _ _ _)) .nil))) .nil)
  case fin1 =>
    intro g5 m news s hQ4 S
    refine hide2 m news fun XX hXX => ?_
    obtain ⟨hv5, tpv, tpn, kv, kn, ks, u, hks, hki, hi3, htp, hrk, rfl, rfl⟩ := hQ4
    refine hXX _ _ ?_
    clear hXX
    walk_at "go"
    with_reducible refine call_range ‹Sn _ _ _ _ _› ?_; intro ra s10 _ _ _ S10
    with_reducible refine iter_range S10 .hd (by decide) (by decide) ?_; intro I1 o1 s11 S11 hI1
    refine for_itr itr_range (fun i g' m news => VSub g5 g' ∧ ∃ tv tn iv inn fv fn Lo u ab, A2 (Im1 w.params g') Lo iv ∧ Lo.length = i ∧ i ≤ 3 ∧ TapeOk tv ∧ IntsAre fv (Lo.filterMap id) ∧ (∀ a ∈ Lo.filterMap id, 0 ≤ a ∧ a < 3) ∧ m = mL L (some (.ref t)) (some (.ref dA)) (some (.ref mx)) (some (.ref KA)) (some (.ref FA)) u ab none none none none none none none ∧  news = [(FA, lstO fv fn), (KA, lstO kv kn), (mdx, moO w.params km kmv (.ref ia) (.ref fa) jm nm), (ia, lstO iv inn), (fa, lstO [] 0), (tA, lstO tv tn), (dA, oD)]) r.hd .name (.inl rfl) S11 hI1 ⟨VSub.refl _, _, _, _, _, _, _, [], _, _, .nil, rfl, Nat.zero_le _, htp, .nil, (fun _ h => nomatch h), rfl, rfl⟩ ?step2 ?fin2
    case step2 =>
      intro i v g6 g7 m own news s E' hi hv7 hQ11 hT hQ13 S
      refine hide4 v m own news fun XX hXX => ?_
      obtain ⟨tv, rfl⟩ := hQ11
      obtain ⟨hv6, tpv, tpn, iv, inn, fv, fn, Lo, u, ab, him, hLi, hi3, htp, hfi, hf3, rfl, rfl⟩ := hQ13
      refine hXX _ _ _ _ ?_
      clear hXX
      walk_at "go"
      with_reducible refine r_next (d := 0) ‹Sn _ _ _ _ _› (r.le (by walk_at "le")) (by walk_at "led") T (by decide) hD htp ?_
      intro k1 tk1 tpv2 tpn2 s2 g8 hk1 hk1' htp2 hv8 S2
      have hmx8 := (hv5.trans (hv6.trans (hv7.trans hv8))) _ _ hmx
      walk_at "go"
      with_reducible refine i_dec (fun q1 => ?_) (fun q1 => ?_)
      · walk_at "go"
        have hfl := hfi.length
        have hfl2 := List.length_filterMap_le id Lo
        with_reducible refine r_app ‹Sn _ _ _ _ _› (by walk_at "led") ?_ (by simp only [sizeLine]; walk_at "om"); intro s3 S3
        walk_at "go"
        with_reducible refine o_getD (v := .ref ia) ‹Sn _ _ _ _ _› T hmx8 (by walk_at "led") (cls451 _) (f_mimports _) (by kernel_rfl) rfl ?_; intro s4 S4
        walk_at "go"
        with_reducible refine i_dec (fun _ => ?_) (fun q2 => absurd q1 q2)
        walk_at "go"
        have hh1 : handedIn (.int k1 tk1) = true := rfl
        with_reducible refine k_import (d := 0) ‹Sn _ _ _ _ _› (r.le (by walk_at "le")) T hh1 ?_; intro xi s5 g9 hv9 hxi S5
        walk_at "go"
        with_reducible refine r_app ‹Sn _ _ _ _ _› (by walk_at "led") ?_ (by rw [him.len, hLi]; simp only [sizeLine]; walk_at "om"); intro s6 S6
        walk_at "go"
        have hv79 := hv8.trans hv9
        refine loop_next (g' := g9) hv79 ⟨(hv6.trans hv7).trans hv79, tpv2, tpn2, iv ++ [.ref xi], inn + 1, fv ++ [.int k1 tk1], fn + 1, Lo ++ [some k1], _, _, (him.imp fun _ _ q => q.up (hv7.trans hv79)).app (.fn hxi), by simp [hLi], by walk_at "om", htp2, ?_, ?_, rfl, rfl⟩ (Sn.pickD (pk := [(FA, lstO (fv ++ [.int k1 tk1]) (fn + 1)), (KA, lstO kv kn), (mdx, moO w.params km kmv (.ref ia) (.ref fa) jm nm), (ia, lstO (iv ++ [.ref xi]) (inn + 1)), (fa, lstO [] 0), (tA, lstO tpv2 tpn2), (dA, oD)]) S6 (by walk_at "led") (by walk_at "sl"))
        · rw [List.filterMap_append]; exact hfi.append (.cons _ _ .nil)
        · rw [List.filterMap_append]
          intro a ha
          rcases List.mem_append.mp ha with q | q
          · exact hf3 a q
          · have : a = k1 := by simpa using q
            subst this; exact ⟨hk1, q1⟩
      · walk_at "go"
        with_reducible refine o_getD (v := .ref ia) ‹Sn _ _ _ _ _› T hmx8 (by walk_at "led") (cls451 _) (f_mimports _) (by kernel_rfl) rfl ?_; intro s4 S4
        walk_at "go"
        with_reducible refine i_dec (fun q2 => absurd q2 q1) (fun _ => ?_)
        walk_at "go"
        with_reducible refine r_newT ‹Sn _ _ _ _ _› ?_ (by walk_at "sz"); intro p3 s12 hp3 S12
        refine Sn.lockK S12 (by walk_at "led") hp3 fun g10 hv10 hg10 S13 => ?_
        walk_at "go"
        have hh1 : handedIn (.ref p3) = true := rfl
        with_reducible refine k_import (d := 0) ‹Sn _ _ _ _ _› (r.le (by walk_at "le")) T hh1 ?_; intro xi s5 g9 hv9 hxi S5
        walk_at "go"
        with_reducible refine r_app ‹Sn _ _ _ _ _› (by walk_at "led") ?_ (by rw [him.len, hLi]; simp only [sizeLine]; walk_at "om"); intro s6 S6
        walk_at "go"
        have hv79 := hv8.trans (hv10.trans hv9)
        refine loop_next (g' := g9) hv79 ⟨(hv6.trans hv7).trans hv79, tpv2, tpn2, iv ++ [.ref xi], inn + 1, fv, fn, Lo ++ [none], _, _, (him.imp fun _ _ q => q.up (hv7.trans hv79)).app (.ot hxi), by simp [hLi], by walk_at "om", htp2, ?_, ?_, rfl, rfl⟩ (Sn.pickD (pk := [(FA, lstO fv fn), (KA, lstO kv kn), (mdx, moO w.params km kmv (.ref ia) (.ref fa) jm nm), (ia, lstO (iv ++ [.ref xi]) (inn + 1)), (fa, lstO [] 0), (tA, lstO tpv2 tpn2), (dA, oD)]) S6 (by walk_at "led") (by walk_at "sl"))
        · rw [List.filterMap_append]; simpa using hfi
        · rw [List.filterMap_append]; simpa using hf3
    case fin2 =>
      intro g6 m news s hQ4 S
      refine hide2 m news fun XX hXX => ?_
      obtain ⟨hv6, tpv, tpn, iv, inn, fv, fn, Lo, u, ab, him, hLi, hi3, htp, hfi, hf3, rfl, rfl⟩ := hQ4
      refine hXX _ _ ?_
      clear hXX
      walk_at "go"
      with_reducible refine call_range ‹Sn _ _ _ _ _› ?_; intro ra s10 _ _ _ S10
      with_reducible refine iter_range S10 .hd (by decide) (by decide) ?_; intro I1 o1 s11 S11 hI1
      have hfl := hfi.length
      have hfl2 := List.length_filterMap_le id Lo
      refine for_itr itr_range (fun i g' m news => VSub g6 g' ∧ ∃ tv tn mv mn fv fn F u ab, A2 (FuAt w.params g') F mv ∧ F.length = i ∧ i ≤ 2 ∧ TapeOk tv ∧ IntsAre fv (Lo.filterMap id ++ F) ∧ (∀ a ∈ F, 0 ≤ a ∧ a < 3) ∧ m = mL L (some (.ref t)) (some (.ref dA)) (some (.ref mx)) (some (.ref KA)) (some (.ref FA)) u ab none none none none none none none ∧  news = [(FA, lstO fv fn), (KA, lstO kv kn), (mdx, moO w.params km kmv (.ref ia) (.ref fa) jm nm), (ia, lstO iv inn), (fa, lstO mv mn), (tA, lstO tv tn), (dA, oD)]) r.hd .name (.inl rfl) S11 hI1 ⟨VSub.refl _, _, _, _, _, _, _, [], _, _, .nil, rfl, Nat.zero_le _, htp, (by rw [List.append_nil]; exact hfi), (fun _ h => nomatch h), rfl, rfl⟩ ?step3 ?fin3
      case step3 =>
        intro i v g7 g8 m own news s E' hi hv8 hQ11 hT hQ13 S
        refine hide4 v m own news fun XX hXX => ?_
        obtain ⟨tv, rfl⟩ := hQ11
        obtain ⟨hv7, tpv, tpn, mv, mn, fv, fn, F, u, ab, hmv, hFi, hi2, htp, hfF, hF3, rfl, rfl⟩ := hQ13
        refine hXX _ _ _ _ ?_
        clear hXX
        walk_at "go"
        with_reducible refine r_next (d := 0) ‹Sn _ _ _ _ _› (r.le (by walk_at "le")) (by walk_at "led") T (by decide) hD htp ?_
        intro k1 tk1 tpv2 tpn2 s2 g9 hk1 hk1' htp2 hv9 S2
        have hmx9 := (hv5.trans (hv6.trans (hv7.trans (hv8.trans hv9)))) _ _ hmx
        walk_at "go"
        have hfl3 := hfF.length
        rw [List.length_append] at hfl3
        with_reducible refine r_app ‹Sn _ _ _ _ _› (by walk_at "led") ?_ (by simp only [sizeLine]; walk_at "om"); intro s3 S3
        walk_at "go"
        with_reducible refine o_getD (v := .ref fa) ‹Sn _ _ _ _ _› T hmx9 (by walk_at "led") (cls451 _) (f_mfuncs _) (by kernel_rfl) rfl ?_; intro s4 S4
        walk_at "go"
        with_reducible refine r_newT ‹Sn _ _ _ _ _› ?_ (by walk_at "sz"); intro p3 s12 hp3 S12
        walk_at "go"
        with_reducible refine r_newT ‹Sn _ _ _ _ _› ?_ (by walk_at "sz"); intro p4 s13 hp4 S13
        walk_at "go"
        with_reducible refine r_newL ‹Sn _ _ _ _ _› ?_ (by walk_at "sz"); intro l5 s14 hl5 S14
        walk_at "go"
        with_reducible refine k_func (d := 0) ‹Sn _ _ _ _ _› (r.le (by walk_at "le")) T ?_; intro xi s5 g10 hv10 hxi S5
        walk_at "go"
        with_reducible refine r_app ‹Sn _ _ _ _ _› (by walk_at "led") ?_ (by rw [hmv.len, hFi]; simp only [sizeLine]; walk_at "om"); intro s6 S6
        walk_at "go"
        have hv79 := hv9.trans hv10
        refine loop_next (g' := g10) hv79 ⟨(hv7.trans hv8).trans hv79, tpv2, tpn2, mv ++ [.ref xi], mn + 1, fv ++ [.int k1 tk1], fn + 1, F ++ [k1], _, _, (hmv.imp fun _ _ q => q.up (hv8.trans hv79)).app hxi, by simp [hFi], by walk_at "om", htp2, ?_, ?_, rfl, rfl⟩ (Sn.pickD (pk := [(FA, lstO (fv ++ [.int k1 tk1]) (fn + 1)), (KA, lstO kv kn), (mdx, moO w.params km kmv (.ref ia) (.ref fa) jm nm), (ia, lstO iv inn), (fa, lstO (mv ++ [.ref xi]) (mn + 1)), (tA, lstO tpv2 tpn2), (dA, oD)]) S6 (by walk_at "led") (by walk_at "sl"))
        · rw [← List.append_assoc]; exact hfF.append (.cons _ _ .nil)
        · intro a ha
          rcases List.mem_append.mp ha with q | q
          · exact hF3 a q
          · have : a = k1 := by simpa using q
            subst this; exact ⟨hk1, hk1'⟩
      case fin3 =>
        intro g7 m news s hQ4 S
        refine hide2 m news fun XX hXX => ?_
        obtain ⟨hv7, tpv, tpn, mv, mn, fv, fn, F, u, ab, hmv, hFi, hi2, htp, hfF, hF3, rfl, rfl⟩ := hQ4
        have hmx7 := (hv5.trans (hv6.trans hv7)) _ _ hmx
        refine hXX _ _ ?_
        clear hXX
        walk_at "go1"
        walk_at "go1"
        walk_at "go1"
        walk_at "go1"
        walk_at "go1"
        with_reducible refine o_setD ‹Sn _ _ _ _ _› T hmx7 (by walk_at "led") (cls451 _) (f_mkinds _) (by kernel_rfl) (Nat.le_of_ble_eq_true (by kernel_rfl)) ?_
        intro tkk s12 hS12
        have S12 := hS12 [(FA, lstO fv fn), (KA, lstO kv kn), (mdx, moO w.params km (.ref KA) (.ref ia) (.ref fa) jm nm), (ia, lstO iv inn), (fa, lstO mv mn), (tA, lstO tpv tpn), (dA, oD)] (by rw [← moO_setK w.params km kmv (.ref ia) (.ref fa) jm nm tkk (.ref KA)]; walk_at "led")
        clear hS12 S S10 S11
        walk_at "go"
        have hfl3 := hfF.length
        rw [List.length_append] at hfl3
        with_reducible refine r_lenL ‹Sn _ _ _ _ _› (Sn.at ‹Sn _ _ _ _ _› (by walk_at "led")) (by simp only [sizeLine]; walk_at "om") ?_; intro t13 s13 S13
        walk_at "go"
        obtain ⟨q1, q2, hD2⟩ := id hD
        with_reducible refine d_set ‹Sn _ _ _ _ _› (by walk_at "led") hD2 ?_ (by walk_at "sz")
        intro oD3 s14 hD3' S14
        have hD3 := draw_setF hD2 hD3'
        have S14 := S14 [(FA, lstO fv fn), (KA, lstO kv kn), (mdx, moO w.params km (.ref KA) (.ref ia) (.ref fa) jm nm), (ia, lstO iv inn), (fa, lstO mv mn), (tA, lstO tpv tpn), (dA, oD3)] (by walk_at "led")
        refine Sn.lockK S14 (a := FA) (by walk_at "led") hFA fun g11 hw11 hgFA S15 => ?_
        refine Sn.lockK S15 (a := KA) (by walk_at "led") hKA fun g12 hw12 hgKA S15 => ?_
        refine Sn.lockK S15 (a := mdx) (by walk_at "led") hmdx fun g13 hw13 hgm S15 => ?_
        refine Sn.lockK S15 (a := ia) (by walk_at "led") hia fun g14 hw14 hgia S15 => ?_
        refine Sn.lockK S15 (a := fa) (by walk_at "led") hfa fun g15 hw15 hgfa S15 => ?_
        clear S14 S13 S12
        have hw := hw11.trans (hw12.trans (hw13.trans (hw14.trans hw15)))
        have hrk7 := hrk.up (hv6.trans (hv7.trans hw))
        have hKD : Rd g15 (.ref KA) (.list (kindsD ks)) := .lst ((hw13.trans (hw14.trans hw15)) _ _ hgKA) hrk7
        have hFD : Rd g15 (.ref FA) (.list (iis (Lo.filterMap id ++ F))) := .lst ((hw12.trans (hw13.trans (hw14.trans hw15))) _ _ hgFA) (rd_ints hfF)
        have hMo : MoAt w.params g15 ks Lo F mx := .mk (hw _ _ hmx7) ((hw14.trans hw15) _ _ hgm) hKD (hw15 _ _ hgia) (him.imp fun _ _ q => q.up (hv7.trans hw)) hgfa (hmv.imp fun _ _ q => q.up hw)
        have hC : CtxOk ks (Lo.filterMap id ++ F) := ⟨hki, fun k hk => ⟨(hks k hk).1, by have := (hks k hk).2; walk_at "om"⟩, by rw [List.length_append]; walk_at "om", by rw [List.length_append]; walk_at "om", fun f hf => (List.mem_append.mp hf).elim (hf3 f) (hF3 f)⟩
        have hnf : (fv.length : Int) = (Lo.filterMap id ++ F).length := by rw [hfF.length]
        rw [hnf] at hD3
        have hnf0 : (0 : Int) < (Lo.filterMap id ++ F).length := by have := hC.f0; walk_at "om"
        have hLo3 : Lo.length ≤ 100 := by walk_at "om"
        have hF100 : F.length ≤ 100 := by walk_at "om"
        clear hrk him hmv hfi hfF hgFA hgKA hgm hgia hgfa hD2 hD3' hD hki hks hf3 hF3 hw hw11 hw12 hw13 hw14 hw15
        walk_at "go"
        with_reducible refine x_tupS (ns := ["depth", "height"]) (by with_unfolding_all rfl) (by rw [he]; with_unfolding_all rfl) (fun _ _ => ?_)
        walk_at "go"
        with_reducible refine r_next (d := 0) ‹Sn _ _ _ _ _› (r.le (by walk_at "le")) (by walk_at "led") T (by decide) hD3 htp ?_
        intro dep dtk tpv2 tpn2 s16 g16 hd0 hd4 htp2 hv16 S16
        walk_at "go"
        with_reducible refine b_pow ‹Sn _ _ _ _ _› ?_; intro s17 t17 S17
        walk_at "go"
        with_reducible refine r_next (d := 0) ‹Sn _ _ _ _ _› (r.le (by walk_at "le")) (by walk_at "led") T (by decide) hD3 htp2 ?_
        intro hei htk tpv3 tpn3 s18 g18 hh0 hh4 htp3 hv18 S18
        walk_at "go"
        with_reducible refine r_newT ‹Sn _ _ _ _ _› ?_ (by walk_at "sz"); intro ta19 s19 hta19 S19
        with_reducible refine u_tup ‹Sn _ _ _ _ _› r.hd (Sn.at ‹Sn _ _ _ _ _› (by walk_at "led")) (by with_unfolding_all rfl) ?_; intro s20 S20
        have S21 := S20.drop (List.sublist_cons_self _ _)
        clear S20 S19 S18 S17 S16 S15
        simp only [List.reverse_cons, List.reverse_nil, List.nil_append, List.cons_append]
        walk_at "go"
        with_reducible refine r_call ‹Sn _ _ _ _ _› (r.le (by walk_at "le")) (own := [(dA, oD3), (tA, lstO tpv3 tpn3)]) (by walk_at "led") (tree_all T 3 g18 dA tA oD3 tpv3 tpn3 24 _ _ hnf0 (by decide) hD3 htp3) ?_
        rintro v22 s22 g22 own22 S22 hv22 hw22 ⟨tr, oD4, left4, tpv4, tpn4, hrt, htok, hD4, rfl, htp4, hl4, hcnt⟩
        have hdp := tree_dp tr 3 htok
        have hct : cntT tr ≤ 24 := by walk_at "om"
        obtain ⟨tra, rfl⟩ := hrt.lst_ref
        walk_at "go"
        with_reducible refine r_call0L ‹Sn _ _ _ _ _› (r.le (by walk_at "le")) (flat_all T 3 g22 tra tr hdp (by walk_at "om") hrt) ?_
        intro fl1 fvs fn1 s23 g23 S23 hv23 hr23 hgfl hrfl
        have hfll := hrfl.length
        have hft := flatT_len tr
        rw [List.length_map] at hfll
        walk_at "go"
        with_reducible refine r_newTD ‹Sn _ _ _ _ _› (xs := iis [11]) (.cons (.int _ _) .nil) ?_ (by walk_at "sz"); intro t24 s24 g24 hv24 hr24 S24
        walk_at "go"
        with_reducible refine r_newL ‹Sn _ _ _ _ _› ?_ (by walk_at "sz"); intro l25 s25 hl25 S25
        have hgfl24 := hv24 _ _ hgfl
        with_reducible refine b_addL S25 (S25.see hgfl24) (Sn.at S25 (by walk_at "led")) ?_ (by walk_at "szo"); intro FL s26 hFL S26
        refine Sn.lockK S26 (by walk_at "led") hFL fun g26 hv26 hgFL S27 => ?_
        have hra : RdAll g26 (fvs ++ [.ref t24]) (plsD (flatT tr ++ [[11]])) := by
          rw [show plsD (flatT tr ++ [[11]]) = plsD (flatT tr) ++ plsD [[11]] from List.map_append]
          exact (hrfl.up (hv24.trans hv26)).append (.cons (hr24.up hv26) .nil)
        have hrFL : Rd g26 (.ref FL) (.list (plsD (flatT tr ++ [[11]]))) := .lst hgFL hra
        clear S26 S25 S24 S23 S22 S21
        walk_at "go"
        with_reducible refine r_listL ‹Sn _ _ _ _ _› (Sn.see ‹Sn _ _ _ _ _› hgFL) (by simp only [List.length_append, List.length_singleton, sizeLine]; walk_at "om") ?_; intro BO kbo s28 hBO S28
        refine Sn.lockK S28 (by walk_at "led") hBO fun g28 hv28 hgBO S29 => ?_
        have hrBO : Rd g28 (.ref BO) (.list (plsD (flatT tr ++ [[11]]))) := .lst hgBO (hra.up hv28)
        have hpo : PlnOk tr := flat_ok tr 3 htok
        have hpo1 : ∀ p ∈ flatT tr, p ≠ [] := fun p hp => (hpo p hp).1
        have hpo2 : ∀ p ∈ flatT tr ++ [[11]], p ≠ [] := fun p hp => (List.mem_append.mp hp).elim (fun q => (hpo p q).1) (fun q => by rw [List.mem_singleton.mp q]; exact List.cons_ne_nil _ _)
        have hpo3 : ∀ p ∈ flatT tr ++ [[11]], p.length ≤ 10 := fun p hp => (List.mem_append.mp hp).elim (fun q => (hpo p q).2) (fun q => by rw [List.mem_singleton.mp q]; decide)
        have hpo4 : (flatT tr ++ [[11]]).length ≤ 4000 := by rw [List.length_append, List.length_singleton]; walk_at "om"
        have S29 := Sn.pickD (own := []) (pk := [(dA, oD4), (tA, lstO tpv4 tpn4)]) S29 (by walk_at "led") (List.nil_sublist _)
        simp only [List.nil_append] at S29
        have hrun : runM (flatT tr) ([], []) = some (tr, []) := runM_tr tr 3 ([], []) htok
        walk_at "go"
        with_reducible refine r_callN (own := []) ‹Sn _ _ _ _ _› (r.le (by walk_at "le")) (by walk_at "led") (sp_pieces (d := 0) T hpo1 (by walk_at "om") hrBO hrun) ?_
        rintro v30 s30 g30 own30 D S30 hv30 hw30 ⟨rfl, H, hvv, nH, rfl, hgH, hpl⟩
        simp only [List.nil_append] at S30
        have hv2230 := hv23.trans (hv24.trans (hv26.trans (hv28.trans hv30)))
        have hv1530 := hv16.trans (hv18.trans (hv22.trans hv2230))
        have hMo30 := hMo.up hv1530
        have hKD30 := hKD.up hv1530
        have hFD30 := hFD.up hv1530
        have hrt30 := hrt.up hv2230
        have hrFL30 := hrFL.up (hv28.trans hv30)
        have hrBO30 := hrBO.up hv30
        clear hMo hKD hFD hrt hrFL hrBO hgFL hgBO hgfl hgfl24 hrfl hr23 hr24 hra S29 S28 S27
        walk_at "go"
        with_reducible refine k_arities (d := 0) ‹Sn _ _ _ _ _› (r.le (by walk_at "le")) T hMo30 hLo3 hF100 ?_; intro AR s31 g31 hv31 hAR S31
        walk_at "go"
        have hgH31 := hv31 _ _ hgH
        have hpl31 := hpl.up hv31
        have hrt31 := hrt30.up hv31
        have hKD31 := hKD30.up hv31
        have hFD31 := hFD30.up hv31
        with_reducible refine r_callP (own := D) (rest := [(dA, oD4), (tA, lstO tpv4 tpn4)]) ‹Sn _ _ _ _ _› (r.le (by walk_at "le")) ?_ (right_all T 3 g31 H tra AR KA FA hvv nH 3 tr D hei htk ks _ hdp (by walk_at "om") htok hC hgH31 hpl31 hrt31 hAR hKD31 hFD31) ?_
        · exact .refl _
        rintro v32 s32 g32 own32 S32 hv32 hw32 ⟨rfl, rfl⟩
        walk_at "go"
        have hnt : (!true) = false := rfl
        with_reducible refine i_no hnt ?_
        walk_at "go"
        have hgH32 := hv32 _ _ (hv31 _ _ hgH)
        have hpl32 := (hpl.up hv31).up hv32
        with_reducible refine r_callP (own := own32) (rest := [(dA, oD4), (tA, lstO tpv4 tpn4)]) ‹Sn _ _ _ _ _› (r.le (by walk_at "le")) (.refl _) (sp_body (d := 0) T hdp (by walk_at "om") hgH32 hpl32) ?_
        rintro v33 s33 g33 own33 S33 hv33 hw33 ⟨rfl, b33, rfl, hr33⟩
        have hv3033 := hv31.trans (hv32.trans hv33)
        have hrFL33 := hrFL30.up hv3033
        walk_at "go"
        with_reducible refine c_neD ‹Sn _ _ _ _ _› r hr33 hrFL33 (shaped_pls _) ?_
        walk_at "go"
        with_reducible refine r_call0L ‹Sn _ _ _ _ _› (r.le (by walk_at "le")) (sp_reached (d := 0) T hpo2 hpo3 hpo4 hrFL33) ?_
        intro RE _ _ s34 g34 S34 hv34 hr34 _ _
        walk_at "go"
        have hv3034 := hv3033.trans hv34
        have hgH34 := hv34 _ _ (hv33 _ _ hgH32)
        have hpl34 := (hpl32.up hv33).up hv34
        have hrFL34 := hrFL33.up hv34
        have hrBO34 := hrBO30.up hv3034
        clear S34 S33 S32 S31 S30
        clear hrFL33 hpl32 hgH32 hgH31 hpl31 hrt31 hKD31 hFD31 hr33 hAR hpl hgH hrt30 hKD30 hFD30 hMo30 hrBO30 hrFL30
        with_reducible refine e_comp (cl := [("pieces", L + 1)]) (by rw [he]; with_unfolding_all rfl) (by with_unfolding_all rfl) (by kernel_rfl) ?_ (by intro _; with_unfolding_all rfl)
        walk_at "go"
        with_reducible refine call_range ‹Sn _ _ _ _ _› ?_; intro ra s35 _ _ _ S35
        with_reducible refine iter_range S35 .hd (by decide) (by decide) ?_; intro I2 o2 s36 S36 hI2
        refine comp_itr (own := own33) (rest := [(dA, oD4), (tA, lstO tpv4 tpn4)]) (mc0 := [("k", .loc none), ("pieces", .ro (L + 1) (.ref H))]) (gls := [("is_named", .ref 223)]) itr_range (fun mc => ∃ u, mc = ([("k", .loc u), ("pieces", .ro (L + 1) (.ref H))] : Loc))  (fun i g2 own vs => own = own33 ∧ VSub g34 g2 ∧ i ≤ 7 ∧ vs = ((List.range i).map fun k : Nat => namedT tr (k : Int)).map Value.bool) he ?hok4 ?gb4 ?sl4 ⟨_, rfl⟩ r.hd .name (.inl rfl) S36 (Pick.self _ _) hI2 ⟨rfl, VSub.refl _, Nat.zero_le _, rfl⟩ ?len4 ?step4 ?fin4
        case hok4 => kernel_rfl
        case gb4 => exact T.glb (by walk_at "gls")
        case sl4 => exact .loc (by kernel_rfl) (by kernel_rfl) (.ro (by kernel_rfl) (by kernel_rfl) (by kernel_rfl) (by walk_at "mem") .nil)
        case len4 =>
          rintro i g own vs ⟨_, _, hi, rfl⟩
          simp only [List.length_map, List.length_range]; show _ < 2 ^ 24; walk_at "om"
        case step4 =>
          intro c' C D i v g0 g2 mc oi own' vs k' s3 E' he' hgl' hG' hi2 hv2 hQ19 hT hQ21 hw hQ23 S'
          refine hide5 v mc oi own' vs fun XX hXX => ?_
          obtain ⟨tj, rfl⟩ := hQ19
          obtain ⟨rfl, hvg, hi3, rfl⟩ := hQ21
          obtain ⟨u, rfl⟩ := hQ23
          have T' : Tp w c'.G0 := by rw [hG']; exact T
          have hvg2 := hvg.trans hv2
          have hgH2 := hvg2 _ _ hgH34
          have hpl2 := hpl34.up hvg2
          refine hXX _ _ _ _ _ ?_
          clear hXX
          walk_at "go"
          with_reducible refine r_callP (own := own') (rest := oi ++ [(D, lstO (((List.range i).map fun k : Nat => namedT tr (k : Int)).map Value.bool) k')]) ‹Sn _ _ _ _ _› (r.le (by walk_at "le")) ?_ (named_all T' 3 g2 H hvv nH tr own' i _ hdp hpo hgH2 hpl2) ?_
          · refine perm_c fun z => ?_
            simp +arith only [List.count_append, List.count_cons, List.count_nil]
          rintro v5 s5 g5 own5 S5 hv5 hw5 ⟨rfl, rfl⟩
          refine ⟨g5, _, own5, hv5, ⟨_, rfl⟩, ⟨rfl, hvg2.trans hv5, hi2, by rw [List.range_succ]; simp⟩, rfl, S5.perm ?_⟩
          refine perm_c fun z => ?_
          simp +arith only [List.count_append, List.count_cons, List.count_nil]
        case fin4 =>
          intro D1 g37 own37 vs37 k37 s37 hD1 hv37 hQ8 hw37 S37
          refine hide2 own37 vs37 fun XX hXX => ?_
          obtain ⟨rfl, hv3437, _, rfl⟩ := hQ8
          refine Sn.lockK S37 (by walk_at "led") hD1 fun g38 hv38 hgD1 S38 => ?_
          have hv3438 := hv37.trans hv38
          have hr34b := hr34.up hv3438
          have hgH38 := hv3438 _ _ hgH34
          have hpl38 := hpl34.up hv3438
          have hrFL38 := hrFL34.up hv3438
          have hrBO38 := hrBO34.up hv3438
          refine hXX _ _ ?_
          clear hXX
          walk_at "go"
          with_reducible refine e_comp (cl := [("reached", L + 1 + 1)]) (by rw [he]; with_unfolding_all rfl) (by with_unfolding_all rfl) (by kernel_rfl) ?_ (by intro _; with_unfolding_all rfl)
          walk_at "go"
          with_reducible refine call_range ‹Sn _ _ _ _ _› ?_; intro ra s39 _ _ _ S39
          with_reducible refine iter_range S39 .hd (by decide) (by decide) ?_; intro I3 o3 s40 S40 hI3
          refine comp_itr (own := []) (mc0 := [("k", .loc none), ("reached", .ro (L + 1 + 1) (.ref RE))]) (gls := []) itr_range (fun mc => ∃ u, mc = ([("k", .loc u), ("reached", .ro (L + 1 + 1) (.ref RE))] : Loc))  (fun i g2 own vs => own = [] ∧ VSub g38 g2 ∧ i ≤ 7 ∧ vs = ((List.range i).map fun k : Nat => namedT tr (k : Int)).map Value.bool) he ?hok5 ?gb5 ?sl5 ⟨_, rfl⟩ r.hd .name (.inl rfl) S40 (Pick.self [] _) hI3 ⟨rfl, VSub.refl _, Nat.zero_le _, rfl⟩ ?len5 ?step5 ?fin5
          case hok5 => kernel_rfl
          case gb5 => exact T.glb (by walk_at "gls")
          case sl5 => exact .loc (by kernel_rfl) (by kernel_rfl) (.ro (by kernel_rfl) (by kernel_rfl) (by kernel_rfl) (by walk_at "mem") .nil)
          case len5 =>
            rintro i g own vs ⟨_, _, hi, rfl⟩
            simp only [List.length_map, List.length_range]; show _ < 2 ^ 24; walk_at "om"
          case step5 =>
            intro c' C D i v g0 g2 mc oi own' vs k' s3 E' he' hgl' hG' hi2 hv2 hQ19 hT hQ21 hw hQ23 S'
            refine hide5 v mc oi own' vs fun XX hXX => ?_
            obtain ⟨tj, rfl⟩ := hQ19
            obtain ⟨rfl, hvg, hi3, rfl⟩ := hQ21
            obtain ⟨u, rfl⟩ := hQ23
            have hr2 := (hr34b.up hvg).up hv2
            refine hXX _ _ _ _ _ ?_
            clear hXX
            walk_at "go"
            with_reducible refine c_inL ‹Sn _ _ _ _ _› r hr2 ?_
            rw [← named_eq htok i (Int.natCast_nonneg i)]
            walk_at "go"
            refine ⟨g2, _, [], VSub.refl _, ⟨_, rfl⟩, ⟨rfl, hvg.trans hv2, hi2, by rw [List.range_succ]; simp⟩, rfl, ‹Sn _ _ _ _ _›⟩
          case fin5 =>
            intro D2 g41 own41 vs41 k41 s41 hD2 hv41 hQ8 hw41 S41
            refine hide2 own41 vs41 fun XX hXX => ?_
            obtain ⟨rfl, _, _, rfl⟩ := hQ8
            refine Sn.lockK S41 (by walk_at "led") hD2 fun g42 hv42 hgD2 S42 => ?_
            have hv3842 := hv41.trans hv42
            have hrA : Rd g42 (.ref D1) (.list (((List.range 7).map fun k : Nat => namedT tr (k : Int)).map PyData.bool)) := .lst (hv3842 _ _ hgD1) (rd_bools _ _)
            have hrB : Rd g42 (.ref D2) (.list (((List.range 7).map fun k : Nat => namedT tr (k : Int)).map PyData.bool)) := .lst hgD2 (rd_bools _ _)
            refine hXX _ _ ?_
            clear hXX
            walk_at "go"
            with_reducible refine c_neD ‹Sn _ _ _ _ _› r hrA hrB (shaped_bools _) ?_
            walk_at "go"
            have hgH42 := hv3842 _ _ hgH38
            have hpl42 := hpl38.up hv3842
            have hrFL42 := hrFL38.up hv3842
            have hrBO42 := hrBO38.up hv3842
            have S42b : Sn c g42 _ (own37 ++ [(dA, oD4), (tA, lstO tpv4 tpn4)]) s41 := S42
            clear S42 S41 S40 S39 S38 S37 S36 S35
            with_reducible refine r_callP (own := own37) (rest := [(dA, oD4), (tA, lstO tpv4 tpn4)]) ‹Sn _ _ _ _ _› (r.le (by walk_at "le")) (.refl _) (low_all T 3 g42 H hvv nH tr own37 dep dtk hdp hpo hgH42 hpl42) ?_
            rintro v43 s43 g43 own43 S43 hv43 hw43 ⟨rfl, hpl43⟩
            walk_at "go"
            have hgH43 := hv43 _ _ hgH42
            have hdp2 : dpT (lowT tr dep) ≤ 3 := by rw [low_dpT]; exact hdp
            have hct2 : cntT (lowT tr dep) ≤ 1000 := by rw [low_cntT]; walk_at "om"
            with_reducible refine r_callP (own := own43) (rest := [(dA, oD4), (tA, lstO tpv4 tpn4)]) ‹Sn _ _ _ _ _› (r.le (by walk_at "le")) (.refl _) (sp_body (d := 0) T hdp2 hct2 hgH43 hpl43) ?_
            rintro v44 s44 g44 own44 S44 hv44 hw44 ⟨rfl, b44, rfl, hr44⟩
            walk_at "go"
            have hrFL44 := (hrFL42.up hv43).up hv44
            with_reducible refine r_call0 ‹Sn _ _ _ _ _› (r.le (by walk_at "le")) (sp_lowered (d := 0) T hpo2 hpo3 hpo4 hrFL44) ?_
            intro v45 s45 g45 S45 hv45 hr45
            have hr45 : Rd g45 v45 (.list (plsD (loweredL dep (flatT tr ++ [[11]])))) := hr45
            rw [← low_eq htok dep hd0] at hr45
            have hr44b := hr44.up hv45
            have hrFL45 := hrFL44.up hv45
            have hrBO45 := ((hrBO42.up hv43).up hv44).up hv45
            walk_at "go"
            with_reducible refine c_eqD ‹Sn _ _ _ _ _› r hr44b hr45 (shaped_pls _) ?_
            walk_at "go"
            with_reducible refine c_eqD ‹Sn _ _ _ _ _› r hrBO45 hrFL45 (shaped_pls _) ?_
            walk_at "go"
            exact r_leave ‹Sn _ _ _ _ _› en (own := []) .nil rfl rfl


-- FZ
theorem law_ct : LawCt := fun _ _ T g t vs ns n hg hi hl => sp_law T g t vs ns n hg hi hl
theorem all_holds : rw1.Holds := holds_of law_ct


end Mine

theorem PySem.Challenge.cw_nm0144_01_holds : PySem.Challenge.rw_nm0144_01.Holds := by
  exact Mine.all_holds
