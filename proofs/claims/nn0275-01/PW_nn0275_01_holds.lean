import PyProof.Rows.All
import Wide.All
import OpenK.AllK
import Wide.FinOn
import PySem.Challenge.RW_nn0275_01
set_option Elab.async false
set_option linter.unusedVariables false
set_option linter.unusedSimpArgs false
set_option tactic.hygienic false
local macro_rules | `(tactic| omega) => `(tactic| first | lia | omega (config := {}))

section
open PySem PySem.W PyProof.Rows PySem.Calls
set_option maxRecDepth 100000
namespace Mine

noncomputable abbrev GM := Addr → Option Obj
noncomputable abbrev tupObj (vs : List Value) (n : Nat) : Obj := { cls := .type "tuple", dict := none, data := .seq vs.toArray n, slots := #[] }
noncomputable abbrev listObj (vs : List Value) (n : Nat) : Obj := { cls := .type "list", dict := none, data := .seq vs.toArray n, slots := #[] }

inductive D where
  | none | bool (b : Bool) | int (i : Int) | str (s : Str) | tup (l : List D) | list (l : List D)

mutual
noncomputable def At (g : GM) (v : Value) : D → Prop
  | .none => v = .none
  | .bool b => v = .bool b
  | .int i => ∃ t, v = .int i t
  | .str s => ∃ t, v = .str s t
  | .tup l => ∃ a vs n, v = .ref a ∧ g a = some (tupObj vs n) ∧ AtL g vs l
  | .list l => ∃ a vs n, v = .ref a ∧ g a = some (listObj vs n) ∧ AtL g vs l
noncomputable def AtL (g : GM) (vs : List Value) : List D → Prop
  | [] => vs = []
  | d :: ds => ∃ v r, vs = v :: r ∧ At g v d ∧ AtL g r ds
end

noncomputable def GM.le (g g' : GM) : Prop := ∀ a o, g a = some o → g' a = some o
theorem GM.le.rfl' {g : GM} : g.le g := fun _ _ h => h
theorem GM.le.trans {g g' g'' : GM} (x : g.le g') (y : g'.le g'') : g.le g'' := fun a o h => y a o (x a o h)

mutual
theorem At.mono {g g' : GM} (hg : g.le g') : ∀ {d : D} {v : Value}, At g v d → At g' v d
  | .none, _, h => by unfold At at h ⊢; exact h
  | .bool _, _, h => by unfold At at h ⊢; exact h
  | .int _, _, h => by unfold At at h ⊢; exact h
  | .str _, _, h => by unfold At at h ⊢; exact h
  | .tup l, _, h => by
      unfold At at h ⊢
      obtain ⟨a, vs, n, e, h1, h2⟩ := h
      exact ⟨a, vs, n, e, hg _ _ h1, AtL.mono hg h2⟩
  | .list l, _, h => by
      unfold At at h ⊢
      obtain ⟨a, vs, n, e, h1, h2⟩ := h
      exact ⟨a, vs, n, e, hg _ _ h1, AtL.mono hg h2⟩
theorem AtL.mono {g g' : GM} (hg : g.le g') : ∀ {ds : List D} {vs : List Value}, AtL g vs ds → AtL g' vs ds
  | [], _, h => by unfold AtL at h ⊢; exact h
  | d :: ds, _, h => by
      unfold AtL at h ⊢
      obtain ⟨v, r, e, h1, h2⟩ := h
      exact ⟨v, r, e, At.mono hg h1, AtL.mono hg h2⟩
end

inductive OC where
  | list (xs : List D)
  | dr (w : World) (g m : Int)
inductive AV where
  | d (x : D)
  | own (a : Addr) (o : OC)
noncomputable abbrev Ctx := List (Str × AV)

noncomputable def IsDr (w : World) (h : Heap) (a : Addr) (gr mx : Int) : Prop :=
  ∃ (p : Program) (t3 t4 : Tok), h.DictOf (strKind p w) a [(Str.ofString "great", .int gr t3), (Str.ofString "mixed", .int mx t4)]

noncomputable def HasOC (g : GM) (h : Heap) (a : Addr) : OC → Prop
  | .list xs => ∃ vs n, h.get? a = some (listObj vs n) ∧ AtL g vs xs
  | .dr w gr mx => IsDr w h a gr mx

noncomputable def Rep (g : GM) (h : Heap) (os : List (Str × Addr)) (x : Str) (v : Value) : AV → Prop
  | .d d => At g v d
  | .own a o => v = .ref a ∧ os.lookup x = some a ∧ HasOC g h a o

noncomputable def Loc (sc : Scope) (env : Env) (m : Str → Option Value) (h : Heap) (x : Str) (v : Value) : Prop :=
  (sc.names.lookup x = some .local ∧ m x = some v) ∨ (sc.names.lookup x = some .cell ∧ ∃ c, env.cells.lookup x = some c ∧ h.IsCell c (some v))

noncomputable def IsFn (n : Str) (a : Arguments) (b : List Stmt) (sc : Scope) : Prop :=
  ∃ (i : Nat) (dl : List Expr) (r : Option Expr) (tp : List TypeParam) (ts : Option Scope) (bd : Str) (pos : Pos), PySem.Challenge.pw_nn0275_01.main.body[i]? = some (PySem.Stmt.FunctionDef n a b dl r tp sc ts bd pos)
noncomputable def usedB : List Str := ["len", "abs", "max", "list", "range", "sum", "any", "isinstance", "enumerate", "reversed", "str"]
structure GOk (mg mb : Str → Option Value) (h0 : Heap) : Prop where
  g : h0.Ns mainGlobals mg
  b : h0.Ns builtinsNs mb
  builtins : ∀ x : Str, x ≠ "__name__" → mb x = bootBuiltins x
  nolimit : h0.NoLimit
  free : ∀ x ∈ usedB, mg x = none
  fn : ∀ n a b sc, IsFn n a b sc → ∃ f o pm code doc, mg n = some (.ref f) ∧ h0.get? f = some o ∧ o.data = .func (docDef n a b sc pm code doc) ∧ h0.CodeRec code n
  half : ∃ a t u n, mg "HALF" = some (.ref a) ∧ h0.get? a = some (tupObj [.int 1 t, .int 2 u] n)

structure Gl where
  mg : Str → Option Value
  mb : Str → Option Value
  h0 : Heap
  prog : Program
  w : World

structure StB (sc : Scope) (σ : Ctx) (P : List Addr) (g : GM) (env : Env) (h : Heap) (m : Str → Option Value) (os : List (Str × Addr)) : Prop where
  ns : h.Ns env.locals m
  prot : P = env.locals :: (env.cells.map (·.2) ++ os.map (·.2))
  cells : ∀ x, sc.names.lookup x = some .cell → ∃ c v, env.cells.lookup x = some c ∧ h.IsCell c v
  names : ∀ x av, σ.lookup x = some av → ∃ v, Loc sc env m h x v ∧ Rep g h os x v av

structure St (Γ : Gl) (sc : Scope) (σ : Ctx) (P : List Addr) (g : GM) (env : Env) (h : Heap) : Prop where
  scope : env.scope = sc
  kind : sc.kind = .function
  globals : env.globals = mainGlobals
  builtins : env.builtins = builtinsNs
  ok : GOk Γ.mg Γ.mb Γ.h0
  base : ∀ a o, Γ.h0.get? a = some o → g a = some o
  stay : ∀ a o, g a = some o → h.get? a = some o
  off : ∀ p ∈ P, g p = none
  inn : ∀ p ∈ P, ∃ o, h.get? p = some o
  apart : P.Nodup
  body : ∃ m os, StB sc σ P g env h m os

structure Step (P P' : List Addr) (g g' : GM) (h h' : Heap) : Prop where
  keep : ∀ a o, h.get? a = some o → a ∉ P → h'.get? a = some o ∧ a ∉ P'
  grow : g.le g'
  new : ∀ a o, g' a = some o → g a = some o ∨ a ∈ P ∨ h.get? a = none
  more : ∀ a o, h.get? a = some o → ∃ o', h'.get? a = some o'

theorem Step.refl {P : List Addr} {g : GM} {h : Heap} : Step P P g g h h := ⟨fun _ _ e n => ⟨e, n⟩, GM.le.rfl', fun _ _ e => .inl e, fun _ o e => ⟨o, e⟩⟩
theorem Step.trans {P P' P'' : List Addr} {g g' g'' : GM} {h h' h'' : Heap} (x : Step P P' g g' h h') (y : Step P' P'' g' g'' h' h'') : Step P P'' g g'' h h'' where
  keep := fun a o e n => let ⟨e1, n1⟩ := x.keep a o e n; y.keep a o e1 n1
  grow := x.grow.trans y.grow
  more := fun a o e => let ⟨o1, e1⟩ := x.more a o e; y.more a o1 e1
  new := fun a o e => by
    have key : ∀ a, a ∈ P' ∨ h'.get? a = none → a ∈ P ∨ h.get? a = none := by
      intro a ha
      by_cases hp : a ∈ P
      · exact .inl hp
      · cases hq : h.get? a with
        | none => exact .inr rfl
        | some o =>
          obtain ⟨e1, n1⟩ := x.keep a o hq hp
          rcases ha with ha | ha
          · exact absurd ha n1
          · rw [e1] at ha; cases ha
    rcases y.new a o e with e1 | e1
    · rcases x.new a o e1 with e2 | e2
      · exact .inl e2
      · exact .inr e2
    · exact .inr (key a e1)

theorem Step.of_keep {P : List Addr} {g : GM} {h h' : Heap} (k : ∀ a o, h.get? a = some o → h'.get? a = some o) : Step P P g g h h' :=
  ⟨fun a o e n => ⟨k a o e, n⟩, GM.le.rfl', fun _ _ e => .inl e, fun a o e => ⟨o, k a o e⟩⟩

theorem HasOC.kept {g g' : GM} {h h' : Heap} {a : Addr} (hg : g.le g') (k : ∀ o, h.get? a = some o → h'.get? a = some o) : ∀ {o : OC}, HasOC g h a o → HasOC g' h' a o
  | .list _, ⟨vs, n, e, r⟩ => ⟨vs, n, k _ e, r.mono hg⟩
  | .dr _ _ _, ⟨p, t3, t4, o, es, ep, e, r⟩ => ⟨p, t3, t4, o, es, ep, k _ e, r⟩

theorem Rep.kept {g g' : GM} {h h' : Heap} {os : List (Str × Addr)} {x : Str} {v : Value} (hg : g.le g') (k : ∀ a, os.lookup x = some a → ∀ o, h.get? a = some o → h'.get? a = some o) :
    ∀ {av : AV}, Rep g h os x v av → Rep g' h' os x v av
  | .d _, r => At.mono hg r
  | .own a _, ⟨e, l, r⟩ => ⟨e, l, r.kept hg (k a l)⟩

theorem Loc.kept {sc : Scope} {env : Env} {m : Str → Option Value} {h h' : Heap} {x : Str} {v : Value} (k : ∀ c, env.cells.lookup x = some c → ∀ o, h.get? c = some o → h'.get? c = some o) (l : Loc sc env m h x v) : Loc sc env m h' x v := by
  rcases l with l | ⟨l, c, hc, o, ho, hd⟩
  · exact .inl l
  · exact .inr ⟨l, c, hc, o, k c hc o ho, hd⟩

section
variable {Γ : Gl} {sc : Scope} {σ : Ctx} {P : List Addr} {g : GM} {env : Env} {h h' : Heap}

theorem St.base0 (S : St Γ sc σ P g env h) : ∀ a o, Γ.h0.get? a = some o → h.get? a = some o := fun a o e => S.stay a o (S.base a o e)

theorem St.kept (S : St Γ sc σ P g env h) (k : ∀ a o, h.get? a = some o → h'.get? a = some o) : St Γ sc σ P g env h' := by
  obtain ⟨m, os, B⟩ := S.body
  refine { S with stay := fun a o e => k a o (S.stay a o e), inn := fun p hp => let ⟨o, e⟩ := S.inn p hp; ⟨o, k p o e⟩, body := ⟨m, os, ?_⟩ }
  refine ⟨B.ns.keeps k, B.prot, fun x hx => ?_, fun x av hx => ?_⟩
  · obtain ⟨c, v, h1, h2⟩ := B.cells x hx
    exact ⟨c, v, h1, h2.keeps k⟩
  · obtain ⟨v, h1, h2⟩ := B.names x av hx
    exact ⟨v, h1.kept fun c _ o e => k c o e, h2.kept GM.le.rfl' fun a _ o e => k a o e⟩

noncomputable def GM.ins (g : GM) (a : Addr) (o : Obj) : GM := fun x => if x = a then some o else g x

theorem St.freeze (S : St Γ sc σ P g env h) {a : Addr} {o : Obj} (ho : h.get? a = some o) (ha : a ∉ P) : St Γ sc σ P (g.ins a o) env h ∧ g.le (g.ins a o) := by
  have le : g.le (g.ins a o) := fun b x e => by
    unfold GM.ins
    by_cases hb : b = a
    · rw [if_pos hb]; subst hb
      rw [S.stay _ _ e] at ho; exact ho.symm
    · rw [if_neg hb]; exact e
  refine ⟨?_, le⟩
  obtain ⟨m, os, B⟩ := S.body
  refine { S with base := fun b x e => le _ _ (S.base b x e), stay := fun b x e => ?_, off := fun p hp => ?_, body := ⟨m, os, { B with names := fun x av hx => ?_ }⟩ }
  · unfold GM.ins at e
    by_cases hb : b = a
    · rw [if_pos hb] at e; rw [hb, ho]; exact e
    · rw [if_neg hb] at e; exact S.stay _ _ e
  · unfold GM.ins
    rw [if_neg (fun (e : p = a) => ha (e ▸ hp))]; exact S.off p hp
  · obtain ⟨v, h1, h2⟩ := B.names x av hx
    exact ⟨v, h1, h2.kept le fun _ _ _ e => e⟩

theorem St.alloc (S : St Γ sc σ P g env h) {o : Obj} (hf : o.isFreed = false := by with_unfolding_all rfl) :
    St Γ sc σ P (g.ins h.objs.size o) env (h.push o) ∧ Step P P g (g.ins h.objs.size o) h (h.push o) ∧ (g.ins h.objs.size o) h.objs.size = some o := by
  have S1 := S.kept (h' := h.push o) fun a x e => Heap.get?_push_of_some _ e
  have hn : h.objs.size ∉ P := fun hp => by
    obtain ⟨x, e⟩ := S.inn _ hp
    exact absurd (Heap.lt_size e) (Nat.lt_irrefl _)
  have e := Heap.get?_push_size h hf
  obtain ⟨S2, le⟩ := S1.freeze e hn
  refine ⟨S2, ⟨fun a x ea na => ⟨Heap.get?_push_of_some _ ea, na⟩, le, fun a x ea => ?_, fun a x e => ⟨x, Heap.get?_push_of_some _ e⟩⟩, by unfold GM.ins; rw [if_pos rfl]⟩
  unfold GM.ins at ea
  by_cases hb : a = h.objs.size
  · refine .inr (.inr ?_)
    cases hq : h.get? a with
    | none => rfl
    | some z => exact absurd (Heap.lt_size hq) (by rw [hb]; exact Nat.lt_irrefl _)
  · rw [if_neg hb] at ea; exact .inl ea

noncomputable def upd : Ctx → Str → AV → Ctx
  | [], x, a => [(x, a)]
  | (y, b) :: r, x, a => if x == y then (y, a) :: r else (y, b) :: upd r x a
theorem lookup_upd : ∀ (σ : Ctx) (x : Str) (a : AV) (y : Str), (upd σ x a).lookup y = if y = x then some a else σ.lookup y
  | [], x, a, y => by
    unfold upd
    rw [List.lookup_cons]
    by_cases h : y = x
    · subst h; simp
    · rw [if_neg h, beq_eq_false_iff_ne.mpr h]
  | (z, b) :: r, x, a, y => by
    unfold upd
    by_cases hz : x = z
    · subst hz
      rw [if_pos (beq_self_eq_true x), List.lookup_cons, List.lookup_cons]
      by_cases h : y = x
      · subst h; simp
      · rw [if_neg h, beq_eq_false_iff_ne.mpr h]
    · rw [if_neg (by simpa using hz), List.lookup_cons, List.lookup_cons, lookup_upd r x a y]
      by_cases h : y = z
      · subst h
        have h2 : ¬ y = x := fun e => hz e.symm
        simp [h2]
      · rw [beq_eq_false_iff_ne.mpr h]

theorem mem_of_lookup' {α : Type} : ∀ {l : List (Str × α)} {n : Str} {c : α}, l.lookup n = some c → (n, c) ∈ l := PySem.mem_of_lookup

theorem St.locals_mem (S : St Γ sc σ P g env h) : env.locals ∈ P := by
  obtain ⟨m, os, B⟩ := S.body
  rw [B.prot]; exact .head _
theorem StB.cell_mem {m : Str → Option Value} {os : List (Str × Addr)} (B : StB sc σ P g env h m os) {x : Str} {c : Addr} (hc : env.cells.lookup x = some c) : c ∈ P := by
  rw [B.prot]
  exact .tail _ (List.mem_append_left _ (List.mem_map_of_mem (f := Prod.snd) (mem_of_lookup' hc)))
theorem StB.own_mem {m : Str → Option Value} {os : List (Str × Addr)} (B : StB sc σ P g env h m os) {x : Str} {a : Addr} (hc : os.lookup x = some a) : a ∈ P := by
  rw [B.prot]
  exact .tail _ (List.mem_append_right _ (List.mem_map_of_mem (f := Prod.snd) (mem_of_lookup' hc)))
theorem StB.cell_ne {m : Str → Option Value} {os : List (Str × Addr)} (B : StB sc σ P g env h m os) (N : P.Nodup) {x : Str} {c : Addr} (hc : env.cells.lookup x = some c) : c ≠ env.locals := by
  rw [B.prot] at N
  intro e
  exact (List.nodup_cons.mp N).1 (e ▸ List.mem_append_left _ (List.mem_map_of_mem (f := Prod.snd) (mem_of_lookup' hc)))
theorem StB.own_ne {m : Str → Option Value} {os : List (Str × Addr)} (B : StB sc σ P g env h m os) (N : P.Nodup) {x : Str} {c : Addr} (hc : os.lookup x = some c) : c ≠ env.locals := by
  rw [B.prot] at N
  intro e
  exact (List.nodup_cons.mp N).1 (e ▸ List.mem_append_right _ (List.mem_map_of_mem (f := Prod.snd) (mem_of_lookup' hc)))
theorem StB.own_cell {m : Str → Option Value} {os : List (Str × Addr)} (B : StB sc σ P g env h m os) (N : P.Nodup) {x y : Str} {a c : Addr} (ha : os.lookup x = some a) (hc : env.cells.lookup y = some c) : a ≠ c := by
  rw [B.prot] at N
  intro e
  have := (List.nodup_append.mp (List.nodup_cons.mp N).2).2.2 c (List.mem_map_of_mem (f := Prod.snd) (mem_of_lookup' hc)) a (List.mem_map_of_mem (f := Prod.snd) (mem_of_lookup' ha))
  exact this e.symm
theorem nodup_lookup {l : List (Str × Addr)} (N : (l.map (·.2)).Nodup) {x y : Str} {a : Addr} (hx : l.lookup x = some a) (hy : l.lookup y = some a) : x = y := by
  have hp : l.Pairwise fun x y => x.2 ≠ y.2 := List.pairwise_map.mp N
  exact name_of_addr hp (mem_of_lookup' hx) (mem_of_lookup' hy)
theorem StB.cells_nodup {m : Str → Option Value} {os : List (Str × Addr)} (B : StB sc σ P g env h m os) (N : P.Nodup) : (env.cells.map (·.2)).Nodup := by
  rw [B.prot] at N
  exact (List.nodup_append.mp (List.nodup_cons.mp N).2).1
theorem StB.os_nodup {m : Str → Option Value} {os : List (Str × Addr)} (B : StB sc σ P g env h m os) (N : P.Nodup) : (os.map (·.2)).Nodup := by
  rw [B.prot] at N
  exact (List.nodup_append.mp (List.nodup_cons.mp N).2).2.1

theorem Step.of_same {a : Addr} (hs : Heap.SameBut a h h') (ha : a ∈ P) (he : ∃ o, h'.get? a = some o) : Step P P g g h h' :=
  ⟨fun b _ e n => ⟨(hs.2 b fun q => n (q ▸ ha)).trans e, n⟩, GM.le.rfl', fun _ _ e => .inl e, fun b o e => by
    by_cases q : b = a
    · rw [q]; exact he
    · exact ⟨o, (hs.2 b q).trans e⟩⟩
theorem stay_same (S : St Γ sc σ P g env h) {a : Addr} (hs : Heap.SameBut a h h') (ha : a ∈ P) : ∀ b o, g b = some o → h'.get? b = some o := fun b o e =>
  (hs.2 b fun q => by have := S.off a ha; rw [← q, e] at this; cases this).trans (S.stay b o e)

end
end Mine
end

section
open PySem PySem.W PyProof.Rows
set_option maxRecDepth 100000
namespace Mine

noncomputable def keepL {α : Type} (out : List Nat) : Nat → List α → List α
  | _, [] => []
  | i, x :: l => match out.any (Nat.beq i) with
    | true => keepL out (i + 1) l
    | false => x :: keepL out (i + 1) l
noncomputable def view0 : Program := { PySem.Challenge.pw_nn0275_01 with main := { PySem.Challenge.pw_nn0275_01.main with body := keepL [0, 2, 5, 10, 23, 28, 32, 45, 55] 0 PySem.Challenge.pw_nn0275_01.main.body } }
noncomputable def seenB (s : Shared) : Bool × Option Value × Option Obj := (usedB.all fun x => (s.heap.nsMap mainGlobals x).isNone, s.heap.nsMap mainGlobals "HALF", s.heap.get? 278)
noncomputable def goodB : Bool × Option Value × Option Obj := (true, some (.ref 278), some (tupObj [.int 1 545, .int 2 546] 0))
noncomputable def xt0 (s : Shared) : Bool := xlAt view0 [] s && recOk [] s
theorem left0 : LeftO PySem.Challenge.pw_nn0275_01 view0 [] xt0 seenB (fun _ => goodB) 4212 := fun w => by kernel_rfl
theorem said0 : PySem.W.OpenLaw.wellSaid PySem.Challenge.rw_nn0275_01 = true := by kernel_rfl
end Mine
end

section
open PySem PySem.W PyProof.Rows PySem.Calls
set_option maxRecDepth 100000
namespace Mine

structure Room (A : Around) (k : Nat) : Prop where
  handled : A.handled = none
  depth : A.depth + k < 890
  units : A.units + 10 * k < 9800
theorem Room.in1 {A : Around} {k : Nat} (R : Room A (k + 1)) : Room A.in1 k := ⟨R.handled, by have := R.depth; show A.depth + k < 890; omega, by have := R.units; show A.units + 1 + 10 * k < 9800; omega⟩
theorem Room.less {A : Around} {k k' : Nat} (R : Room A k) (h : k' ≤ k) : Room A k' := ⟨R.handled, by have := R.depth; omega, by have := R.units; omega⟩

noncomputable def noE : Value → Shared → Prop := fun _ _ => False

noncomputable abbrev Post {α : Type} (Γ : Gl) (sc : Scope) (σ' : Ctx) (env : Env) (P : List Addr) (g : GM) (s : Shared) (R : GM → α → Prop) (Q : α → Shared → Prop) : Prop :=
  ∀ a P' g' h' tk, Step P P' g g' s.heap h' → St Γ sc σ' P' g' env h' → R g' a → Q a { s with heap := h', toks := tk }

noncomputable def Tri {α : Type} (Γ : Gl) (sc : Scope) (k : Nat) (t : Env → Sem α) (G : GM → Prop) (σ σ' : Ctx) (R : GM → α → Prop) : Prop :=
  ∀ (A : Around) (env : Env) (P : List Addr) (g : GM) (s : Shared) (Q : α → Shared → Prop), Room A k → St Γ sc σ P g env s.heap → G g → Post Γ sc σ' env P g s R Q →
    wpAny (model Γ.prog Γ.w) A (t env) Q noE s

noncomputable abbrev T1 : GM → Prop := fun _ => True
noncomputable def EvE (Γ : Gl) (sc : Scope) (k : Nat) (e : Expr) (σ : Ctx) (d : D) (σ' : Ctx) : Prop := Tri Γ sc k (eval e) T1 σ σ' fun g v => At g v d
noncomputable def EvT (Γ : Gl) (sc : Scope) (k : Nat) (e : Expr) (σ : Ctx) (c : Bool) (σ' : Ctx) : Prop := Tri Γ sc k (fun env => isTrue e env (eval e env)) T1 σ σ' fun _ b => b = c
noncomputable def EvL (Γ : Gl) (sc : Scope) (k : Nat) (es : List Expr) (σ : Ctx) (ds : List D) (σ' : Ctx) : Prop := ∀ pos, Tri Γ sc k (fun env => spliced (backTo pos (starEach es env))) T1 σ σ' fun g vs => AtL g vs ds
noncomputable def BinS (Γ : Gl) (k : Nat) (op : Operator) (a b c : D) : Prop := ∀ sc σ v1 v2, Tri Γ sc k (fun _ => binaryOp op v1 v2) (fun g => At g v1 a ∧ At g v2 b) σ σ fun g v => At g v c
noncomputable def InpS (Γ : Gl) (k : Nat) (op : Operator) (a b c : D) : Prop := ∀ sc σ v1 v2, Tri Γ sc k (fun _ => inplaceOp op v1 v2) (fun g => At g v1 a ∧ At g v2 b) σ σ fun g v => At g v c
noncomputable def CmpS (Γ : Gl) (k : Nat) (op : CmpOp) (a b : D) (c : Bool) : Prop := ∀ sc σ v1 v2, Tri Γ sc k (fun _ => compareOp op v1 v2) (fun g => At g v1 a ∧ At g v2 b) σ σ fun _ v => v = .bool c
noncomputable def UnS (Γ : Gl) (k : Nat) (op : UnaryOp) (a c : D) : Prop := ∀ sc σ v1, Tri Γ sc k (fun _ => unaryOp op v1) (fun g => At g v1 a) σ σ fun g v => At g v c
noncomputable def TruS (Γ : Gl) (k : Nat) (a : D) (c : Bool) : Prop := ∀ sc σ v1, Tri Γ sc k (fun _ => truthy v1) (fun g => At g v1 a) σ σ fun _ b => b = c

variable {Γ : Gl} {sc : Scope} {k : Nat} {σ σ1 σ2 σ3 : Ctx}

theorem at_int {g : GM} {v : Value} {i : Int} (h : At g v (.int i)) : ∃ t, v = .int i t := by unfold At at h; exact h
theorem at_bool {g : GM} {v : Value} {i : Bool} (h : At g v (.bool i)) : v = .bool i := by unfold At at h; exact h
theorem at_none {g : GM} {v : Value} (h : At g v .none) : v = .none := by unfold At at h; exact h
theorem at_str {g : GM} {v : Value} {i : Str} (h : At g v (.str i)) : ∃ t, v = .str i t := by unfold At at h; exact h
theorem at_tup {g : GM} {v : Value} {l : List D} (h : At g v (.tup l)) : ∃ a vs n, v = .ref a ∧ g a = some (tupObj vs n) ∧ AtL g vs l := by unfold At at h; exact h
theorem at_list {g : GM} {v : Value} {l : List D} (h : At g v (.list l)) : ∃ a vs n, v = .ref a ∧ g a = some (listObj vs n) ∧ AtL g vs l := by unfold At at h; exact h
theorem mk_int {g : GM} {i : Int} {t : Tok} : At g (.int i t) (.int i) := by unfold At; exact ⟨t, rfl⟩
theorem mk_bool {g : GM} {i : Bool} : At g (.bool i) (.bool i) := by unfold At; rfl
theorem mk_none {g : GM} : At g .none .none := by unfold At; rfl
theorem mk_str {g : GM} {i : Str} {t : Tok} : At g (.str i t) (.str i) := by unfold At; exact ⟨t, rfl⟩
theorem mk_tup {g : GM} {a : Addr} {vs : List Value} {n : Nat} {l : List D} (h : g a = some (tupObj vs n)) (r : AtL g vs l) : At g (.ref a) (.tup l) := by unfold At; exact ⟨a, vs, n, rfl, h, r⟩
theorem mk_list {g : GM} {a : Addr} {vs : List Value} {n : Nat} {l : List D} (h : g a = some (listObj vs n)) (r : AtL g vs l) : At g (.ref a) (.list l) := by unfold At; exact ⟨a, vs, n, rfl, h, r⟩
theorem atL_nil {g : GM} : AtL g [] [] := by unfold AtL; rfl
theorem atL_cons {g : GM} {v : Value} {vs : List Value} {d : D} {ds : List D} (h : At g v d) (r : AtL g vs ds) : AtL g (v :: vs) (d :: ds) := by unfold AtL; exact ⟨v, vs, rfl, h, r⟩
theorem atL_nil_inv {g : GM} {vs : List Value} (h : AtL g vs []) : vs = [] := by unfold AtL at h; exact h
theorem atL_cons_inv {g : GM} {vs : List Value} {d : D} {ds : List D} (h : AtL g vs (d :: ds)) : ∃ v r, vs = v :: r ∧ At g v d ∧ AtL g r ds := by unfold AtL at h; exact h
theorem atL_len {g : GM} : ∀ {ds : List D} {vs : List Value}, AtL g vs ds → vs.length = ds.length
  | [], _, h => by rw [atL_nil_inv h]; rfl
  | d :: ds, _, h => by obtain ⟨v, r, rfl, _, h2⟩ := atL_cons_inv h; simp [atL_len h2]
theorem atL_get {g : GM} : ∀ {ds : List D} {vs : List Value} {i : Nat} {d : D}, AtL g vs ds → ds[i]? = some d → ∃ v, vs[i]? = some v ∧ At g v d
  | [], _, _, _, _, e => by simp at e
  | d :: ds, _, 0, _, h, e => by obtain ⟨v, r, rfl, h1, h2⟩ := atL_cons_inv h; simp at e; subst e; exact ⟨v, rfl, h1⟩
  | d :: ds, _, i + 1, _, h, e => by
    obtain ⟨v, r, rfl, h1, h2⟩ := atL_cons_inv h
    simp at e
    obtain ⟨v', e1, e2⟩ := atL_get h2 e
    exact ⟨v', by simpa using e1, e2⟩
theorem atL_append {g : GM} : ∀ {ds es : List D} {vs ws : List Value}, AtL g vs ds → AtL g ws es → AtL g (vs ++ ws) (ds ++ es)
  | [], _, _, _, h, h' => by rw [atL_nil_inv h]; exact h'
  | d :: ds, _, _, _, h, h' => by obtain ⟨v, r, rfl, h1, h2⟩ := atL_cons_inv h; exact atL_cons h1 (atL_append h2 h')
theorem atL_drop {g : GM} : ∀ {ds : List D} {vs : List Value} (n : Nat), AtL g vs ds → AtL g (vs.drop n) (ds.drop n)
  | _, _, 0, h => h
  | [], _, _ + 1, h => by rw [atL_nil_inv h]; exact atL_nil
  | d :: ds, _, n + 1, h => by obtain ⟨v, r, rfl, h1, h2⟩ := atL_cons_inv h; exact atL_drop n h2
theorem atL_take {g : GM} : ∀ {ds : List D} {vs : List Value} (n : Nat), AtL g vs ds → AtL g (vs.take n) (ds.take n)
  | _, _, 0, _ => by simp [atL_nil]
  | [], _, _ + 1, h => by rw [atL_nil_inv h]; exact atL_nil
  | d :: ds, _, n + 1, h => by obtain ⟨v, r, rfl, h1, h2⟩ := atL_cons_inv h; exact atL_cons h1 (atL_take n h2)

theorem BinS.add {a b : Int} : BinS Γ k .Add (.int a) (.int b) (.int (a + b)) := by
  intro sc σ v1 v2 A env P g s Q R S ⟨h1, h2⟩ q
  obtain ⟨t, rfl⟩ := at_int h1; obtain ⟨u, rfl⟩ := at_int h2
  exact PyProof.Rows.add_int (q _ _ _ _ _ Step.refl S mk_int)
theorem BinS.sub {a b : Int} : BinS Γ k .Sub (.int a) (.int b) (.int (a - b)) := by
  intro sc σ v1 v2 A env P g s Q R S ⟨h1, h2⟩ q
  obtain ⟨t, rfl⟩ := at_int h1; obtain ⟨u, rfl⟩ := at_int h2
  exact PyProof.Rows.sub_int (q _ _ _ _ _ Step.refl S mk_int)
theorem BinS.mul {a b : Int} (hm : IntMulOk a b) : BinS Γ k .Mult (.int a) (.int b) (.int (a * b)) := by
  intro sc σ v1 v2 A env P g s Q R S ⟨h1, h2⟩ q
  obtain ⟨t, rfl⟩ := at_int h1; obtain ⟨u, rfl⟩ := at_int h2
  exact PyProof.Rows.mul_int (q _ _ _ _ _ Step.refl S mk_int) hm
theorem BinS.fmod {a b : Int} (hb : b ≠ 0) : BinS Γ k .Mod (.int a) (.int b) (.int (a.fmod b)) := by
  intro sc σ v1 v2 A env P g s Q R S ⟨h1, h2⟩ q
  obtain ⟨t, rfl⟩ := at_int h1; obtain ⟨u, rfl⟩ := at_int h2
  exact PyProof.Rows.mod_int' hb (q _ _ _ _ _ Step.refl S mk_int)
theorem BinS.fdiv {a b : Int} (hb : b ≠ 0) (hp : Builtin.divisionGoesByPylong a b = false) : BinS Γ k .FloorDiv (.int a) (.int b) (.int (a.fdiv b)) := by
  intro sc σ v1 v2 A env P g s Q R S ⟨h1, h2⟩ q
  obtain ⟨t, rfl⟩ := at_int h1; obtain ⟨u, rfl⟩ := at_int h2
  exact PyProof.Rows.floordiv_int hb (q _ _ _ _ _ Step.refl S mk_int) (Or.inl hp)
theorem BinS.pow {a n : Int} (hn : 0 ≤ n) (hsz : (Builtin.Int.intBits a : Int) * n ≤ 2 ^ 27) : BinS Γ k .Pow (.int a) (.int n) (.int (a ^ n.toNat)) := by
  intro sc σ v1 v2 A env P g s Q R S ⟨h1, h2⟩ q
  obtain ⟨t, rfl⟩ := at_int h1; obtain ⟨u, rfl⟩ := at_int h2
  exact PyProof.Rows.pow_int hn hsz (q _ _ _ _ _ Step.refl S mk_int)
theorem BinS.subb {a b : Bool} : BinS Γ k .Sub (.bool a) (.bool b) (.int (b2i a - b2i b)) := by
  intro sc σ v1 v2 A env P g s Q R S ⟨h1, h2⟩ q
  cases at_bool h1; cases at_bool h2
  exact PyProof.Rows.sub_bool (q _ _ _ _ _ Step.refl S mk_int)
theorem BinS.addb {a : Int} {b : Bool} : BinS Γ k .Add (.int a) (.bool b) (.int (a + if b = true then 1 else 0)) := by
  intro sc σ v1 v2 A env P g s Q R S ⟨h1, h2⟩ q
  obtain ⟨t, rfl⟩ := at_int h1; cases at_bool h2
  exact PySem.add_int_bool (q _ _ _ _ _ Step.refl S mk_int)
theorem InpS.add {a b : Int} : InpS Γ k .Add (.int a) (.int b) (.int (a + b)) := by
  intro sc σ v1 v2 A env P g s Q R S ⟨h1, h2⟩ q
  obtain ⟨t, rfl⟩ := at_int h1; obtain ⟨u, rfl⟩ := at_int h2
  exact PyProof.Rows.iadd_int (q _ _ _ _ _ Step.refl S mk_int)
theorem InpS.sub {a b : Int} : InpS Γ k .Sub (.int a) (.int b) (.int (a - b)) := by
  intro sc σ v1 v2 A env P g s Q R S ⟨h1, h2⟩ q
  obtain ⟨t, rfl⟩ := at_int h1; obtain ⟨u, rfl⟩ := at_int h2
  exact PyProof.Rows.isub_int (q _ _ _ _ _ Step.refl S mk_int)
theorem UnS.neg {a : Int} : UnS Γ k .USub (.int a) (.int (-a)) := by
  intro sc σ v1 A env P g s Q R S h1 q
  obtain ⟨t, rfl⟩ := at_int h1
  exact PyProof.Rows.neg_int (q _ _ _ _ _ Step.refl S mk_int)
theorem TruS.bool {b : Bool} : TruS Γ k (.bool b) b := by
  intro sc σ v1 A env P g s Q R S h1 q
  cases at_bool h1
  exact wpAny_truthy_bool (q _ _ _ _ _ Step.refl S rfl)
theorem UnS.not {a : D} {c : Bool} (h : TruS Γ k a c) : UnS Γ k .Not a (.bool (!c)) := by
  intro sc σ v1 A env P g s Q R S h1 q
  refine PySem.not_value (h sc σ v1 A env P g s _ R S h1 fun b P' g' h' tk st S' e => ?_)
  subst e
  exact q _ _ _ _ _ st S' mk_bool
theorem CmpS.lt {a b : Int} : CmpS Γ k .Lt (.int a) (.int b) (decide (a < b)) := by
  intro sc σ v1 v2 A env P g s Q R S ⟨h1, h2⟩ q
  obtain ⟨t, rfl⟩ := at_int h1; obtain ⟨u, rfl⟩ := at_int h2
  exact PyProof.Rows.lt_int (q _ _ _ _ _ Step.refl S rfl)
theorem CmpS.gt {a b : Int} : CmpS Γ k .Gt (.int a) (.int b) (decide (b < a)) := by
  intro sc σ v1 v2 A env P g s Q R S ⟨h1, h2⟩ q
  obtain ⟨t, rfl⟩ := at_int h1; obtain ⟨u, rfl⟩ := at_int h2
  exact PyProof.Rows.gt_int (q _ _ _ _ _ Step.refl S rfl)
theorem CmpS.eq {a b : Int} : CmpS Γ k .Eq (.int a) (.int b) (a == b) := by
  intro sc σ v1 v2 A env P g s Q R S ⟨h1, h2⟩ q
  obtain ⟨t, rfl⟩ := at_int h1; obtain ⟨u, rfl⟩ := at_int h2
  exact PyProof.Rows.eq_int (q _ _ _ _ _ Step.refl S rfl)
theorem CmpS.ne {a b : Int} : CmpS Γ k .NotEq (.int a) (.int b) (a != b) := by
  intro sc σ v1 v2 A env P g s Q R S ⟨h1, h2⟩ q
  obtain ⟨t, rfl⟩ := at_int h1; obtain ⟨u, rfl⟩ := at_int h2
  exact PyProof.Rows.ne_int (q _ _ _ _ _ Step.refl S rfl)
theorem CmpS.le {a b : Int} : CmpS Γ k .LtE (.int a) (.int b) (decide (a ≤ b)) := by
  intro sc σ v1 v2 A env P g s Q R S ⟨h1, h2⟩ q
  obtain ⟨t, rfl⟩ := at_int h1; obtain ⟨u, rfl⟩ := at_int h2
  exact PySem.P.le_int (q _ _ _ _ _ Step.refl S rfl)
theorem CmpS.ge {a b : Int} : CmpS Γ k .GtE (.int a) (.int b) (decide (a ≥ b)) := by
  intro sc σ v1 v2 A env P g s Q R S ⟨h1, h2⟩ q
  obtain ⟨t, rfl⟩ := at_int h1; obtain ⟨u, rfl⟩ := at_int h2
  exact PySem.P.ge_int (q _ _ _ _ _ Step.refl S rfl)
theorem CmpS.eqs {a b : Str} : CmpS Γ k .Eq (.str a) (.str b) (a == b) := by
  intro sc σ v1 v2 A env P g s Q R S ⟨h1, h2⟩ q
  obtain ⟨t, rfl⟩ := at_str h1; obtain ⟨u, rfl⟩ := at_str h2
  exact PyProof.Rows.eq_str (q _ _ _ _ _ Step.refl S rfl)
theorem CmpS.isNone {a : D} {c : Bool} (hc : ∀ g v, At g v a → (v == .none) = c) : CmpS Γ k .Is a .none c := by
  intro sc σ v1 v2 A env P g s Q R S ⟨h1, h2⟩ q
  cases at_none h2
  exact is_none (q _ _ _ _ _ Step.refl S (by rw [hc _ _ h1]))
theorem CmpS.isNotNone {a : D} {c : Bool} (hc : ∀ g v, At g v a → (!(v == .none)) = c) : CmpS Γ k .IsNot a .none c := by
  intro sc σ v1 v2 A env P g s Q R S ⟨h1, h2⟩ q
  cases at_none h2
  exact isNot_none (q _ _ _ _ _ Step.refl S (by rw [hc _ _ h1]))

theorem EvE.int {i : Int} {n : Nat} {pos : Pos} : EvE Γ sc k (.Constant (.int i) n pos) σ (.int i) σ := by
  intro A env P g s Q R S _ q
  exact wpAny_Constant_int (q _ _ _ _ _ Step.refl S mk_int)
theorem EvE.str {i : Str} {n : Nat} {pos : Pos} : EvE Γ sc k (.Constant (.str i) n pos) σ (.str i) σ := by
  intro A env P g s Q R S _ q
  exact wpAny_Constant_str (q _ _ _ _ _ Step.refl S mk_str)
theorem EvE.bool {i : Bool} {n : Nat} {pos : Pos} : EvE Γ sc k (.Constant (.bool i) n pos) σ (.bool i) σ := by
  intro A env P g s Q R S _ q
  exact wpAny_Constant_bool (q _ _ _ _ _ Step.refl S mk_bool)
theorem EvE.none {n : Nat} {pos : Pos} : EvE Γ sc k (.Constant .none n pos) σ .none σ := by
  intro A env P g s Q R S _ q
  exact wpAny_Constant_none (q _ _ _ _ _ Step.refl S mk_none)

theorem St.kindOf {P : List Addr} {g : GM} {env : Env} {h : Heap} (S : St Γ sc σ P g env h) (x : Str) : env.kindOf x = sc.names.lookup x := by
  unfold Env.kindOf; rw [S.scope]
theorem St.kindF {P : List Addr} {g : GM} {env : Env} {h : Heap} (S : St Γ sc σ P g env h) : env.scope.kind = .function := by rw [S.scope]; exact S.kind

theorem loadName_any {A : Around} {env : Env} {P : List Addr} {g : GM} {s : Shared} {Q : Value → Shared → Prop} {x : Str} {m : Str → Option Value} {v : Value} {E : Value → Shared → Prop} {M : Model}
    (S : St Γ sc σ P g env s.heap) (ns : s.heap.Ns env.locals m) (l : Loc sc env m s.heap x v) (h : Q v s) : wpAny M A (loadName env x) Q E s := by
  rcases l with ⟨l, e⟩ | ⟨l, c, hc, hv⟩
  · exact wpAny_loadName_local S.kindF ((S.kindOf x).trans l) ns e h
  · exact wpAny_loadName_cell S.kindF ((S.kindOf x).trans l) hc hv h

theorem load_d {A : Around} {env : Env} {P : List Addr} {g : GM} {s : Shared} {Q : Value → Shared → Prop} {x : Str} {d : D} {E : Value → Shared → Prop} {M : Model}
    (S : St Γ sc σ P g env s.heap) (hx : σ.lookup x = some (.d d)) (h : ∀ v, At g v d → Q v s) : wpAny M A (loadName env x) Q E s := by
  obtain ⟨m, os, B⟩ := S.body
  obtain ⟨v, l, r⟩ := B.names x _ hx
  exact loadName_any S B.ns l (h v r)

theorem EvE.name {x : Str} {pos : Pos} {d : D} (hx : σ.lookup x = some (.d d)) (hd : (x == ("__debug__" : Str)) = false := by decide +kernel) : EvE Γ sc k (.Name x pos) σ d σ := by
  intro A env P g s Q R S _ q
  exact wpAny_Name (load_d S hx fun v r => q _ _ _ _ _ Step.refl S r) hd

theorem EvE.bin {l r : Expr} {op : Operator} {pos : Pos} {a b c : D} (h1 : EvE Γ sc k l σ a σ1) (h2 : EvE Γ sc k r σ1 b σ2) (h3 : BinS Γ k op a b c) : EvE Γ sc k (.BinOp l op r pos) σ c σ2 := by
  intro A env P g s Q R S _ q
  refine wpAny_BinOp (h1 A env P g s _ R S trivial fun v1 P1 g1 h1' t1 st1 S1 a1 => ?_)
  refine h2 A env P1 g1 _ _ R S1 trivial fun v2 P2 g2 h2' t2 st2 S2 a2 => ?_
  refine h3 sc σ2 v1 v2 A env P2 g2 _ _ R S2 ⟨a1.mono st2.grow, a2⟩ fun v3 P3 g3 h3' t3 st3 S3 a3 => ?_
  exact q _ _ _ _ _ ((st1.trans st2).trans st3) S3 a3
theorem EvE.un {x : Expr} {op : UnaryOp} {pos : Pos} {a c : D} (h1 : EvE Γ sc k x σ a σ1) (h3 : UnS Γ k op a c) : EvE Γ sc k (.UnaryOp op x pos) σ c σ1 := by
  intro A env P g s Q R S _ q
  refine wpAny_UnaryOp (h1 A env P g s _ R S trivial fun v1 P1 g1 h1' t1 st1 S1 a1 => ?_)
  refine h3 sc σ1 v1 A env P1 g1 _ _ R S1 a1 fun v3 P3 g3 h3' t3 st3 S3 a3 => ?_
  exact q _ _ _ _ _ (st1.trans st3) S3 a3
theorem EvE.cmp {l r : Expr} {op : CmpOp} {pos : Pos} {a b : D} {c : Bool} (h1 : EvE Γ sc k l σ a σ1) (h2 : EvE Γ sc k r σ1 b σ2) (h3 : CmpS Γ k op a b c)
    (hm : behindInMarks op r = false := by with_unfolding_all rfl) : EvE Γ sc k (.Compare l [op] [r] pos) σ (.bool c) σ2 := by
  intro A env P g s Q R S _ q
  refine wpAny_Compare1 (h1 A env P g s _ R S trivial fun v1 P1 g1 h1' t1 st1 S1 a1 => ?_) hm
  refine h2 A env P1 g1 _ _ R S1 trivial fun v2 P2 g2 h2' t2 st2 S2 a2 => ?_
  refine h3 sc σ2 v1 v2 A env P2 g2 _ _ R S2 ⟨a1.mono st2.grow, a2⟩ fun v3 P3 g3 h3' t3 st3 S3 a3 => ?_
  subst a3
  exact q _ _ _ _ _ ((st1.trans st2).trans st3) S3 mk_bool
theorem EvT.cmp {l r : Expr} {op : CmpOp} {pos : Pos} {a b : D} {c : Bool} (h1 : EvE Γ sc k l σ a σ1) (h2 : EvE Γ sc k r σ1 b σ2) (h3 : CmpS Γ k op a b c)
    (hm : behindInMarks op r = false := by with_unfolding_all rfl) : EvT Γ sc k (.Compare l [op] [r] pos) σ c σ2 := by
  intro A env P g s Q R S _ q
  refine wpAny_isTrue_Compare1 (h1 A env P g s _ R S trivial fun v1 P1 g1 h1' t1 st1 S1 a1 => ?_) hm
  refine h2 A env P1 g1 _ _ R S1 trivial fun v2 P2 g2 h2' t2 st2 S2 a2 => ?_
  refine h3 sc σ2 v1 v2 A env P2 g2 _ _ R S2 ⟨a1.mono st2.grow, a2⟩ fun v3 P3 g3 h3' t3 st3 S3 a3 => ?_
  subst a3
  exact wpAny_truthy_bool (q _ _ _ _ _ ((st1.trans st2).trans st3) S3 rfl)
theorem EvT.not {x : Expr} {pos : Pos} {c : Bool} (h1 : EvT Γ sc k x σ c σ1) : EvT Γ sc k (.UnaryOp .Not x pos) σ (!c) σ1 := by
  intro A env P g s Q R S _ q
  refine wpAny_isTrue_Not (h1 A env P g s _ R S trivial fun b P1 g1 h1' t1 st1 S1 a1 => ?_)
  subst a1
  exact q _ _ _ _ _ st1 S1 rfl
theorem EvT.value {e : Expr} {a : D} {c : Bool} (h1 : EvE Γ sc k e σ a σ1) (h2 : TruS Γ k a c) (he : ∀ env whole, isTrue e env whole = (do let v ← whole; standAt e.pos; holding [v] (truthy v)) := by intros; with_unfolding_all rfl) : EvT Γ sc k e σ c σ1 := by
  intro A env P g s Q R S _ q
  refine wpAny_isTrue_value (h1 A env P g s _ R S trivial fun v1 P1 g1 h1' t1 st1 S1 a1 => ?_) (he _ _)
  refine h2 sc σ1 v1 A env P1 g1 _ _ R S1 a1 fun v3 P3 g3 h3' t3 st3 S3 a3 => ?_
  exact q _ _ _ _ _ (st1.trans st3) S3 a3
theorem EvE.ite {test body orelse : Expr} {pos : Pos} {c : Bool} {d : D} (h1 : EvT Γ sc k test σ c σ1) (ht : c = true → EvE Γ sc k body σ1 d σ2) (hf : c = false → EvE Γ sc k orelse σ1 d σ2) : EvE Γ sc k (.IfExp test body orelse pos) σ d σ2 := by
  intro A env P g s Q R S _ q
  refine wpAny_IfExp (h1 A env P g s _ R S trivial fun b P1 g1 h1' t1 st1 S1 a1 => ?_)
  subst a1
  cases b with
  | true => exact ht rfl A env P1 g1 _ _ R S1 trivial fun v3 P3 g3 h3' t3 st3 S3 a3 => q _ _ _ _ _ (st1.trans st3) S3 a3
  | false => exact hf rfl A env P1 g1 _ _ R S1 trivial fun v3 P3 g3 h3' t3 st3 S3 a3 => q _ _ _ _ _ (st1.trans st3) S3 a3
theorem EvT.and {x y : Expr} {pos : Pos} {c c' : Bool} (h1 : EvT Γ sc k x σ c σ1) (h2 : c = true → EvT Γ sc k y σ1 c' σ1) : EvT Γ sc k (.BoolOp .And [x, y] pos) σ (c && c') σ1 := by
  intro A env P g s Q R S _ q
  refine wpAny_isTrue_BoolOp (wpAny_allTrue_And_cons (h1 A env P g s _ R S trivial fun b P1 g1 h1' t1 st1 S1 a1 => ?_))
  subst a1
  cases b with
  | true =>
    refine wpAny_allTrue_And_cons (h2 rfl A env P1 g1 _ _ R S1 trivial fun b2 P3 g3 h3' t3 st3 S3 a3 => ?_)
    subst a3
    cases b2 with
    | true => exact wpAny_allTrue_And_nil (q _ _ _ _ _ (st1.trans st3) S3 rfl)
    | false => exact q _ _ _ _ _ (st1.trans st3) S3 rfl
  | false => exact q _ _ _ _ _ st1 S1 rfl
theorem EvT.or {x y : Expr} {pos : Pos} {c c' : Bool} (h1 : EvT Γ sc k x σ c σ1) (h2 : c = false → EvT Γ sc k y σ1 c' σ1) : EvT Γ sc k (.BoolOp .Or [x, y] pos) σ (c || c') σ1 := by
  intro A env P g s Q R S _ q
  refine wpAny_isTrue_BoolOp (wpAny_allTrue_Or_cons (h1 A env P g s _ R S trivial fun b P1 g1 h1' t1 st1 S1 a1 => ?_))
  subst a1
  cases b with
  | false =>
    refine wpAny_allTrue_Or_cons (h2 rfl A env P1 g1 _ _ R S1 trivial fun b2 P3 g3 h3' t3 st3 S3 a3 => ?_)
    subst a3
    cases b2 with
    | false => exact wpAny_allTrue_Or_nil (q _ _ _ _ _ (st1.trans st3) S3 rfl)
    | true => exact q _ _ _ _ _ (st1.trans st3) S3 rfl
  | true => exact q _ _ _ _ _ st1 S1 rfl
theorem EvE.and {x y : Expr} {pos : Pos} {c c' : Bool} (h1 : EvE Γ sc k x σ (.bool c) σ1) (h2 : c = true → EvE Γ sc k y σ1 (.bool c') σ1) : EvE Γ sc k (.BoolOp .And [x, y] pos) σ (.bool (c && c')) σ1 := by
  intro A env P g s Q R S _ q
  refine wpAny_And2 (h1 A env P g s _ R S trivial fun v P1 g1 h1' t1 st1 S1 a1 => ?_)
  cases at_bool a1
  refine wpAny_truthy_bool ?_
  cases c with
  | true => exact h2 rfl A env P1 g1 _ _ R S1 trivial fun v3 P3 g3 h3' t3 st3 S3 a3 => q _ _ _ _ _ (st1.trans st3) S3 a3
  | false => exact q _ _ _ _ _ st1 S1 mk_bool
theorem EvE.or {x y : Expr} {pos : Pos} {c c' : Bool} (h1 : EvE Γ sc k x σ (.bool c) σ1) (h2 : c = false → EvE Γ sc k y σ1 (.bool c') σ1) : EvE Γ sc k (.BoolOp .Or [x, y] pos) σ (.bool (c || c')) σ1 := by
  intro A env P g s Q R S _ q
  refine wpAny_Or2 (h1 A env P g s _ R S trivial fun v P1 g1 h1' t1 st1 S1 a1 => ?_)
  cases at_bool a1
  refine wpAny_truthy_bool ?_
  cases c with
  | false => exact h2 rfl A env P1 g1 _ _ R S1 trivial fun v3 P3 g3 h3' t3 st3 S3 a3 => q _ _ _ _ _ (st1.trans st3) S3 a3
  | true => exact q _ _ _ _ _ st1 S1 mk_bool

theorem EvL.nil : EvL Γ sc k [] σ [] σ := by
  intro pos A env P g s Q R S _ q
  exact wpAny_items_nil (q _ _ _ _ _ Step.refl S atL_nil)
theorem EvL.cons {e : Expr} {rest : List Expr} {d : D} {ds : List D} (h1 : EvE Γ sc k e σ d σ1) (h2 : EvL Γ sc k rest σ1 ds σ2) (he : ∀ env, starEach (e :: rest) env = (false, eval e env) :: starEach rest env := by intro _; with_unfolding_all rfl) : EvL Γ sc k (e :: rest) σ (d :: ds) σ2 := by
  intro pos A env P g s Q R S _ q
  refine wpAny_items_cons (h1 A env P g s _ R S trivial fun v P1 g1 h1' t1 st1 S1 a1 => ?_) (he env)
  refine h2 pos A env P1 g1 _ _ R S1 trivial fun vs P3 g3 h3' t3 st3 S3 a3 => ?_
  exact q _ _ _ _ _ (st1.trans st3) S3 (atL_cons (a1.mono st3.grow) a3)
theorem EvE.tup {es : List Expr} {n : Nat} {pos : Pos} {ds : List D} (h1 : EvL Γ sc k es σ ds σ1) (hn : ds.length ≤ 1000 := by decide) : EvE Γ sc k (.Tuple es n pos) σ (.tup ds) σ1 := by
  intro A env P g s Q R S _ q
  refine wpAny_Tuple (h1 pos A env P g s _ R S trivial fun vs P1 g1 h1' t1 st1 S1 a1 => ?_)
  refine ⟨by rw [atL_len a1]; exact Nat.le_trans hn (by decide +kernel), ?_⟩
  obtain ⟨S2, st2, e⟩ := S1.alloc (o := tupObj vs 0)
  exact q _ _ _ _ _ (st1.trans st2) S2 (mk_tup e (a1.mono st2.grow))
theorem EvE.lst {es : List Expr} {pos : Pos} {ds : List D} (h1 : EvL Γ sc k es σ ds σ1) (hn : ds.length ≤ 1000 := by decide) : EvE Γ sc k (.List es pos) σ (.list ds) σ1 := by
  intro A env P g s Q R S _ q
  refine wpAny_List (h1 pos A env P g s _ R S trivial fun vs P1 g1 h1' t1 st1 S1 a1 => ?_)
  refine ⟨by rw [atL_len a1]; exact Nat.le_trans hn (by decide +kernel), ?_⟩
  obtain ⟨S2, st2, e⟩ := S1.alloc (o := listObj vs 0)
  exact q _ _ _ _ _ (st1.trans st2) S2 (mk_list e (a1.mono st2.grow))
end Mine
end

section
open PySem PySem.W PyProof.Rows PySem.Calls
set_option maxRecDepth 100000
namespace Mine
variable {Γ : Gl} {sc : Scope} {k : Nat} {σ σ1 σ2 σ3 : Ctx}

noncomputable def Stored (sc : Scope) (x : Str) : Prop := sc.names.lookup x = some .local ∨ sc.names.lookup x = some .cell

theorem St.same {P : List Addr} {g : GM} {env : Env} {h h' : Heap} (S : St Γ sc σ P g env h) {a : Addr} (hs : Heap.SameBut a h h') (ha : a ∈ P) (he : ∃ o, h'.get? a = some o)
    {σ' : Ctx} (B : ∃ m os, StB sc σ' P g env h' m os) : St Γ sc σ' P g env h' :=
  { S with
    stay := stay_same S hs ha
    inn := fun p hp => by
      by_cases q : p = a
      · rw [q]; exact he
      · obtain ⟨o, e⟩ := S.inn p hp
        exact ⟨o, (hs.2 p q).trans e⟩
    body := B }

theorem Heap.IsCell.there {h : Heap} {c : Addr} {v : Option Value} (x : h.IsCell c v) : ∃ o, h.get? c = some o := let ⟨o, e, _⟩ := x; ⟨o, e⟩

theorem ns_there {h : Heap} {a : Addr} {m : Str → Option Value} (x : h.Ns a m) : ∃ o, h.get? a = some o := let ⟨o, _, _, e, _⟩ := x; ⟨o, e⟩

theorem store_av {A : Around} {env : Env} {P : List Addr} {g : GM} {s : Shared} {Q : Unit → Shared → Prop} {x : Str} {v : Value} {av : AV} {E : Value → Shared → Prop} {M : Model} {m : Str → Option Value} {os : List (Str × Addr)}
    (S : St Γ sc σ P g env s.heap) (B : StB sc σ P g env s.heap m os) (hx : Stored sc x) (hv : Rep g s.heap os x v av)
    (h : ∀ h' tk, Step P P g g s.heap h' → St Γ sc (upd σ x av) P g env h' → Q () { s with heap := h', toks := tk }) : wpAny M A (storeName env x v) Q E s := by
  rcases hx with hx | hx
  · refine wpAny_storeName_local ((S.kindOf x).trans hx) B.ns (fun h' hn hs => h h' _ (Step.of_same hs S.locals_mem (ns_there hn)) (S.same hs S.locals_mem (ns_there hn) ⟨_, os, ⟨hn, B.prot, fun y hy => ?_, fun y av' hy => ?_⟩⟩)) (by rw [S.kindF]; rfl)
    · obtain ⟨c, v0, h1, h2⟩ := B.cells y hy
      exact ⟨c, v0, h1, h2.sameBut hs (B.cell_ne S.apart h1)⟩
    · rw [lookup_upd] at hy
      by_cases q : y = x
      · subst q
        rw [if_pos rfl] at hy; cases hy
        exact ⟨v, .inl ⟨hx, by simp⟩, hv.kept GM.le.rfl' fun a ha o e => (hs.2 a (B.own_ne S.apart ha)).trans e⟩
      · rw [if_neg q] at hy
        obtain ⟨v0, l, r⟩ := B.names y av' hy
        refine ⟨v0, ?_, r.kept GM.le.rfl' fun a ha o e => (hs.2 a (B.own_ne S.apart ha)).trans e⟩
        rcases l with ⟨l, e⟩ | ⟨l, c, hc, hv0⟩
        · exact .inl ⟨l, by simp [q, e]⟩
        · exact .inr ⟨l, c, hc, hv0.sameBut hs (B.cell_ne S.apart hc)⟩
  · obtain ⟨c, v1, hc, hcv⟩ := B.cells x hx
    have hcm := B.cell_mem hc
    refine wpAny_storeName_cell S.kindF ((S.kindOf x).trans hx) hc hcv fun h' hn hs => h h' _ (Step.of_same hs hcm (Heap.IsCell.there hn)) (S.same hs hcm (Heap.IsCell.there hn) ⟨m, os, ⟨B.ns.sameBut hs (B.cell_ne S.apart hc).symm, B.prot, fun y hy => ?_, fun y av' hy => ?_⟩⟩)
    · by_cases q : y = x
      · subst q; exact ⟨c, _, hc, hn⟩
      · obtain ⟨c', v0, h1, h2⟩ := B.cells y hy
        exact ⟨c', v0, h1, h2.sameBut hs fun e => q (nodup_lookup (B.cells_nodup S.apart) h1 (e ▸ hc))⟩
    · rw [lookup_upd] at hy
      by_cases q : y = x
      · subst q
        rw [if_pos rfl] at hy; cases hy
        exact ⟨v, .inr ⟨hx, c, hc, hn⟩, hv.kept GM.le.rfl' fun a ha o e => (hs.2 a (B.own_cell S.apart ha hc)).trans e⟩
      · rw [if_neg q] at hy
        obtain ⟨v0, l, r⟩ := B.names y av' hy
        refine ⟨v0, ?_, r.kept GM.le.rfl' fun a ha o e => (hs.2 a (B.own_cell S.apart ha hc)).trans e⟩
        rcases l with ⟨l, e⟩ | ⟨l, c', hc', hv0⟩
        · exact .inl ⟨l, e⟩
        · exact .inr ⟨l, c', hc', hv0.sameBut hs fun e => q (nodup_lookup (B.cells_nodup S.apart) hc' (e ▸ hc))⟩

theorem store_d {A : Around} {env : Env} {P : List Addr} {g : GM} {s : Shared} {Q : Unit → Shared → Prop} {x : Str} {v : Value} {d : D} {E : Value → Shared → Prop} {M : Model}
    (S : St Γ sc σ P g env s.heap) (hx : Stored sc x) (hv : At g v d)
    (h : ∀ h' tk, Step P P g g s.heap h' → St Γ sc (upd σ x (.d d)) P g env h' → Q () { s with heap := h', toks := tk }) : wpAny M A (storeName env x v) Q E s := by
  obtain ⟨m, os, B⟩ := S.body
  exact store_av S B hx (av := .d d) hv h

theorem St.weaken {P : List Addr} {g : GM} {env : Env} {h : Heap} {σ' : Ctx} (S : St Γ sc σ P g env h) (w : ∀ y av, σ'.lookup y = some av → σ.lookup y = some av) : St Γ sc σ' P g env h := by
  obtain ⟨m, os, B⟩ := S.body
  exact { S with body := ⟨m, os, { B with names := fun y av hy => B.names y av (w y av hy) }⟩ }

noncomputable def less (σ : Ctx) (x : Str) : Ctx := σ.filter fun p => p.1 != x
theorem lookup_less : ∀ (σ : Ctx) (x y : Str), (less σ x).lookup y = if y = x then none else σ.lookup y
  | [], x, y => by simp [less]
  | (z, b) :: r, x, y => by
    have ih := lookup_less r x y
    unfold less at ih ⊢
    by_cases hz : z = x
    · subst hz
      rw [List.filter_cons, if_neg (by simp), ih, List.lookup_cons]
      by_cases hy : y = z
      · rw [if_pos hy, if_pos hy]
      · rw [if_neg hy, if_neg hy, beq_eq_false_iff_ne.mpr hy]
    · rw [List.filter_cons, if_pos (by simpa using hz), List.lookup_cons, List.lookup_cons, ih]
      by_cases hy : y = z
      · subst hy
        simp [hz]
      · rw [beq_eq_false_iff_ne.mpr hy]

structure Tmp (a : Addr) (o : OC) (P : List Addr) (g : GM) (h : Heap) : Prop where
  has : HasOC g h a o
  off : a ∉ P
  free : g a = none

theorem HasOC.there {g : GM} {h : Heap} {a : Addr} : ∀ {o : OC}, HasOC g h a o → ∃ x, h.get? a = some x
  | .list _, ⟨_, _, e, _⟩ => ⟨_, e⟩
  | .dr _ _ _, ⟨_, _, _, _, _, _, e, _⟩ => ⟨_, e⟩
theorem Tmp.step {a : Addr} {o : OC} {P P' : List Addr} {g g' : GM} {h h' : Heap} (t : Tmp a o P g h) (s : Step P P' g g' h h') : Tmp a o P' g' h' := by
  obtain ⟨x, e⟩ := t.has.there
  obtain ⟨_, n⟩ := s.keep a x e t.off
  refine ⟨t.has.kept s.grow fun o e => (s.keep a o e t.off).1, n, ?_⟩
  cases q : g' a with
  | none => rfl
  | some z =>
    rcases s.new a z q with h1 | h1 | h1
    · rw [t.free] at h1; cases h1
    · exact absurd h1 t.off
    · rw [e] at h1; cases h1

theorem nodup_ins {α : Type} {a : α} {l : α} {c o : List α} (h : (l :: (c ++ o)).Nodup) (ha : a ∉ l :: (c ++ o)) : (l :: (c ++ a :: o)).Nodup := by
  simp only [List.nodup_cons, List.mem_append, List.nodup_append, List.mem_cons, not_or, List.nodup_cons] at h ha ⊢
  obtain ⟨⟨h1, h2⟩, h3, h4, h5⟩ := h
  obtain ⟨a1, a2, a3⟩ := ha
  refine ⟨⟨h1, fun e => a1 e.symm, h2⟩, h3, ⟨a3, h4⟩, ?_⟩
  intro x hx y hy
  rcases hy with rfl | hy
  · intro e; subst e; exact a2 hx
  · exact h5 x hx y hy

theorem Step.widen {P P' P'' : List Addr} {g g' : GM} {h h' : Heap} (x : Step P P' g g' h h') (w : ∀ p ∈ P'', p ∈ P' ∨ h.get? p = none) : Step P P'' g g' h h' :=
  ⟨fun a o e n => ⟨(x.keep a o e n).1, fun q => (w a q).elim (x.keep a o e n).2 fun z => by rw [e] at z; cases z⟩, x.grow, x.new, x.more⟩

theorem St.take {P : List Addr} {g : GM} {env : Env} {h : Heap} (S : St Γ sc σ P g env h) {a : Addr} {o : OC} (t : Tmp a o P g h) (x : Str) :
    ∃ P' m os, St Γ sc (less σ x) P' g env h ∧ StB sc (less σ x) P' g env h m os ∧ os.lookup x = some a ∧ (∀ p ∈ P', p ∈ P ∨ p = a) ∧ ∀ p ∈ P, p ∈ P' := by
  obtain ⟨m, os, B⟩ := S.body
  have hp : P = env.locals :: (env.cells.map (·.2) ++ os.map (·.2)) := B.prot
  have sub : ∀ p, p ∈ env.locals :: (env.cells.map (·.2) ++ ((x, a) :: os).map (·.2)) → p ∈ P ∨ p = a := by
    intro p q
    rw [hp]
    simp only [List.map_cons, List.mem_cons, List.mem_append] at q ⊢
    rcases q with q | q | q | q
    · exact .inl (.inl q)
    · exact .inl (.inr (.inl q))
    · exact .inr q
    · exact .inl (.inr (.inr q))
  have B' : StB sc (less σ x) (env.locals :: (env.cells.map (·.2) ++ ((x, a) :: os).map (·.2))) g env h m ((x, a) :: os) := ⟨B.ns, rfl, B.cells, fun y av hy => by
    rw [lookup_less] at hy
    by_cases q : y = x
    · rw [if_pos q] at hy; cases hy
    rw [if_neg q] at hy
    obtain ⟨v, l, r⟩ := B.names y av hy
    refine ⟨v, l, ?_⟩
    cases av with
    | d _ => exact r
    | own b o' =>
      obtain ⟨e, lb, hb⟩ := r
      refine ⟨e, ?_, hb⟩
      rw [List.lookup_cons]
      rw [beq_eq_false_iff_ne.mpr q]; exact lb⟩
  refine ⟨_, m, (x, a) :: os, ?_, B', by simp, sub, ?_⟩
  · refine { S with off := fun p q => ?_, inn := fun p q => ?_, apart := ?_, body := ⟨_, _, B'⟩ }
    · rcases sub p q with q | rfl
      · exact S.off p q
      · exact t.free
    · rcases sub p q with q | rfl
      · exact S.inn p q
      · exact t.has.there
    · have N := S.apart
      have ha := t.off
      rw [hp] at N ha
      simpa using nodup_ins N ha
  · intro p q
    rw [hp] at q
    simp only [List.map_cons, List.mem_cons, List.mem_append] at q ⊢
    rcases q with q | q | q
    · exact .inl q
    · exact .inr (.inl q)
    · exact .inr (.inr (.inr q))

theorem store_o {A : Around} {env : Env} {P : List Addr} {g : GM} {s : Shared} {Q : Unit → Shared → Prop} {x : Str} {a : Addr} {o : OC} {E : Value → Shared → Prop} {M : Model}
    (S : St Γ sc σ P g env s.heap) (hx : Stored sc x) (t : Tmp a o P g s.heap)
    (h : ∀ P' h' tk, (∀ hb P0 g0, Step P0 P g0 g hb s.heap → hb.get? a = none → Step P0 P' g0 g hb h') → (∀ b o', Tmp b o' P g s.heap → b ≠ a → Tmp b o' P' g h') → St Γ sc (upd σ x (.own a o)) P' g env h' → Q () { s with heap := h', toks := tk }) : wpAny M A (storeName env x (.ref a)) Q E s := by
  obtain ⟨P', m, os, S', B', l, sub, sup⟩ := S.take t x
  refine store_av S' B' hx (av := .own a o) ⟨rfl, l, t.has⟩ fun h' tk st S2 => h P' h' tk (fun hb P0 g0 st0 hn => ?_) (fun b o' tb hne => ?_) (S2.weaken fun y av hy => ?_)
  · have st1 : Step P0 P' g0 g hb s.heap := st0.widen fun p q => by
      rcases sub p q with q | rfl
      · exact .inl q
      · exact .inr hn
    exact st1.trans st
  · have t1 : Tmp b o' P' g s.heap := ⟨tb.has, fun q => (sub b q).elim tb.off hne, tb.free⟩
    exact t1.step st
  · rw [lookup_upd] at hy ⊢
    by_cases q : y = x
    · rw [if_pos q] at hy ⊢; exact hy
    · rw [if_neg q] at hy ⊢; rw [lookup_less, if_neg q]; exact hy

theorem St.give {P : List Addr} {g : GM} {env : Env} {h : Heap} (S : St Γ sc σ P g env h) {x : Str} {xs : List D} {a : Addr} (hx : σ.lookup x = some (.own a (.list xs))) :
    ∃ P' g', St Γ sc (upd σ x (.d (.list xs))) P' g' env h ∧ Step P P' g g' h h ∧ At g' (.ref a) (.list xs) ∧ ∃ m, h.Ns env.locals m ∧ Loc sc env m h x (.ref a) := by
  obtain ⟨m, os, B⟩ := S.body
  obtain ⟨v, l, rfl, la, vs, n, e, hvs⟩ := B.names x _ hx
  have N := S.apart
  have am := B.own_mem la
  have hp : P = env.locals :: (env.cells.map (·.2) ++ os.map (·.2)) := B.prot
  let os' := os.filter fun p => p.2 != a
  have mem' : ∀ p, p ∈ env.locals :: (env.cells.map (·.2) ++ os'.map (·.2)) → p ∈ P ∧ p ≠ a := by
    intro p q
    rw [hp]
    simp only [List.mem_cons, List.mem_append, List.mem_map] at q ⊢
    rcases q with q | ⟨z, q, rfl⟩ | ⟨z, q, rfl⟩
    · exact ⟨.inl q, fun w => B.own_ne N la (w.symm.trans q)⟩
    · refine ⟨.inr (.inl ⟨z, q, rfl⟩), fun w => ?_⟩
      have := hp ▸ N
      have h3 := (List.nodup_append.mp (List.nodup_cons.mp this).2).2.2 z.2 (List.mem_map_of_mem (f := Prod.snd) q) a (List.mem_map_of_mem (f := Prod.snd) (mem_of_lookup' la))
      exact h3 w
    · have := List.mem_filter.mp q
      exact ⟨.inr (.inr ⟨z, this.1, rfl⟩), by simpa using this.2⟩
  have look : ∀ y b, os.lookup y = some b → b ≠ a → os'.lookup y = some b := by
    intro y b
    show os.lookup y = some b → b ≠ a → (os.filter fun p => p.2 != a).lookup y = some b
    clear hp mem' B la am
    induction os with
    | nil => intro h1; simp at h1
    | cons z r ih =>
      obtain ⟨zn, za⟩ := z
      intro h1 h2
      rw [List.lookup_cons] at h1
      rw [List.filter_cons]
      by_cases hz : za = a
      · rw [if_neg (by simp [hz])]
        cases hb : y == zn with
        | true => rw [hb] at h1; cases h1; exact absurd hz h2
        | false => rw [hb] at h1; exact ih h1 h2
      · rw [if_pos (by simpa using hz), List.lookup_cons]
        cases hb : y == zn with
        | true => rw [hb] at h1; exact h1
        | false => rw [hb] at h1; exact ih h1 h2
  have le : g.le (g.ins a (listObj vs n)) := fun b z hz => by
    unfold GM.ins
    by_cases q : b = a
    · have := S.off a am; rw [← q, hz] at this; cases this
    · rw [if_neg q]; exact hz
  have at' : At (g.ins a (listObj vs n)) (.ref a) (.list xs) := mk_list (n := n) (by unfold GM.ins; rw [if_pos rfl]) (hvs.mono le)
  refine ⟨env.locals :: (env.cells.map (·.2) ++ os'.map (·.2)), g.ins a (listObj vs n), ?_, ⟨fun b z e1 n1 => ⟨e1, fun q => n1 (mem' b q).1⟩, le, fun b z e1 => ?_, fun b z e1 => ⟨z, e1⟩⟩, at', m, B.ns, l⟩
  · refine { S with base := fun b z hz => le _ _ (S.base b z hz), stay := fun b z hz => ?_, off := fun p q => ?_, inn := fun p q => S.inn p (mem' p q).1, apart := ?_, body := ⟨m, os', ⟨B.ns, rfl, B.cells, fun y av hy => ?_⟩⟩ }
    · unfold GM.ins at hz
      by_cases q : b = a
      · rw [if_pos q] at hz; rw [q, e]; exact hz
      · rw [if_neg q] at hz; exact S.stay _ _ hz
    · unfold GM.ins
      rw [if_neg (mem' p q).2]; exact S.off p (mem' p q).1
    · have N' := hp ▸ N
      refine List.Nodup.sublist ?_ N'
      exact List.Sublist.cons_cons _ (List.Sublist.append (List.Sublist.refl _) (List.Sublist.map _ List.filter_sublist))
    · rw [lookup_upd] at hy
      by_cases q : y = x
      · rw [if_pos q] at hy; cases hy
        exact ⟨.ref a, q ▸ l, at'⟩
      · rw [if_neg q] at hy
        obtain ⟨v0, l0, r0⟩ := B.names y av hy
        refine ⟨v0, l0, ?_⟩
        cases av with
        | d _ => exact At.mono le r0
        | own b o' =>
          obtain ⟨e0, lb, hb⟩ := r0
          refine ⟨e0, look y b lb fun w => q (nodup_lookup (B.os_nodup N) lb (w ▸ la)), hb.kept le fun _ e => e⟩
  · unfold GM.ins at e1
    by_cases q : b = a
    · exact .inr (.inl (q ▸ am))
    · rw [if_neg q] at e1; exact .inl e1

theorem EvE.nameOwn {x : Str} {pos : Pos} {xs : List D} {a : Addr} (hx : σ.lookup x = some (.own a (.list xs))) (hd : (x == ("__debug__" : Str)) = false := by decide +kernel) : EvE Γ sc k (.Name x pos) σ (.list xs) (upd σ x (.d (.list xs))) := by
  intro A env P g s Q R S _ q
  obtain ⟨P', g', S', st, hat, m, ns, l⟩ := S.give hx
  exact wpAny_Name (loadName_any S ns l (q _ _ _ _ _ st S' hat)) hd
end Mine
end

section
open PySem PySem.W PyProof.Rows PySem.Calls
set_option maxRecDepth 100000
namespace Mine
variable {Γ : Gl} {sc : Scope} {k : Nat} {σ σ1 σ2 σ3 : Ctx}

inductive Out where
  | next (N : Ctx → Prop)
  | ret (d : D)
  | retN (d : D) (N : Ctx → Prop)
  | retO (o : OC)
noncomputable abbrev Out.to (σ : Ctx) : Out := .next fun σ' => σ' = σ

noncomputable def PostS (Γ : Gl) (sc : Scope) (env : Env) (P : List Addr) (g : GM) (s : Shared) (o : Out) (Q : Flow → Shared → Prop) : Prop :=
  match o with
  | .next N => ∀ σ' P' g' h' tk, N σ' → Step P P' g g' s.heap h' → St Γ sc σ' P' g' env h' → Q .next { s with heap := h', toks := tk }
  | .ret d => ∀ v P' g' h' tk, Step P P' g g' s.heap h' → (∀ a o, g' a = some o → h'.get? a = some o) → At g' v d → Q (.ret v) { s with heap := h', toks := tk }
  | .retN d N => ∀ σ' v P' g' h' tk, N σ' → Step P P' g g' s.heap h' → St Γ sc σ' P' g' env h' → At g' v d → Q (.ret v) { s with heap := h', toks := tk }
  | .retO o => ∀ a P' g' h' tk, Step P P' g g' s.heap h' → (∀ b x, g' b = some x → h'.get? b = some x) → HasOC g' h' a o → g' a = none → s.heap.get? a = none → Q (.ret (.ref a)) { s with heap := h', toks := tk }

theorem PostS.after {env : Env} {P P1 : List Addr} {g g1 : GM} {s : Shared} {h1 : Heap} {t1 : Nat} {o : Out} {Q : Flow → Shared → Prop} (q : PostS Γ sc env P g s o Q) (st : Step P P1 g g1 s.heap h1) :
    PostS Γ sc env P1 g1 { s with heap := h1, toks := t1 } o Q := by
  cases o with
  | next N => exact fun σ' P' g' h' tk n st2 S2 => q σ' P' g' h' tk n (st.trans st2) S2
  | ret d => exact fun v P' g' h' tk st2 S2 a => q v P' g' h' tk (st.trans st2) S2 a
  | retN d N => exact fun σ' v P' g' h' tk n st2 S2 a => q σ' v P' g' h' tk n (st.trans st2) S2 a
  | retO o => exact fun a P' g' h' tk st2 S2 ho hg hn => q a P' g' h' tk (st.trans st2) S2 ho hg (by
      cases e : s.heap.get? a with
      | none => rfl
      | some z => obtain ⟨z', e'⟩ := st.more a z e; have hn : h1.get? a = none := hn; rw [hn] at e'; cases e')

noncomputable def Run (Γ : Gl) (sc : Scope) (k : Nat) (t : Env → Sem Flow) (σ : Ctx) (o : Out) : Prop :=
  ∀ (A : Around) (env : Env) (P : List Addr) (g : GM) (s : Shared) (Q : Flow → Shared → Prop), Room A k → St Γ sc σ P g env s.heap → PostS Γ sc env P g s o Q →
    wpAny (model Γ.prog Γ.w) A (t env) Q noE s
noncomputable def ExS (Γ : Gl) (sc : Scope) (k : Nat) (ss : List Stmt) (σ : Ctx) (o : Out) : Prop := Run Γ sc k (execs ss) σ o
noncomputable def Ex1 (Γ : Gl) (sc : Scope) (k : Nat) (st : Stmt) (σ : Ctx) (o : Out) : Prop := Run Γ sc k (exec st) σ o

theorem ExS.nil : ExS Γ sc k [] σ (.to σ) := by
  intro A env P g s Q R S q
  exact wpAny_execs_nil (q _ _ _ _ _ rfl Step.refl S)
theorem ExS.consN {st : Stmt} {rest : List Stmt} {o : Out} {N : Ctx → Prop} (h1 : Ex1 Γ sc k st σ (.next N)) (h2 : ∀ σ1, N σ1 → ExS Γ sc k rest σ1 o) : ExS Γ sc k (st :: rest) σ o := by
  intro A env P g s Q R S q
  exact wpAny_execs_cons (h1 A env P g s _ R S fun σ1 P1 g1 h1' t1 n st1 S1 => h2 σ1 n A env P1 g1 _ _ R S1 (q.after st1))
theorem ExS.cons {st : Stmt} {rest : List Stmt} {o : Out} (h1 : Ex1 Γ sc k st σ (.to σ1)) (h2 : ExS Γ sc k rest σ1 o) : ExS Γ sc k (st :: rest) σ o :=
  ExS.consN h1 fun _ e => e ▸ h2
theorem ExS.ret {st : Stmt} {rest : List Stmt} {d : D} (h1 : Ex1 Γ sc k st σ (.ret d)) : ExS Γ sc k (st :: rest) σ (.ret d) := by
  intro A env P g s Q R S q
  exact wpAny_execs_cons (h1 A env P g s _ R S q)
theorem Ex1.ret {e : Expr} {pos : Pos} {d : D} (h1 : EvE Γ sc k e σ d σ1) : Ex1 Γ sc k (.Return (some e) pos) σ (.ret d) := by
  intro A env P g s Q R S q
  exact wpAny_Return_some (h1 A env P g s _ R S trivial fun v P1 g1 h1' t1 st1 S1 a1 => q _ _ _ _ _ st1 S1.stay a1)
theorem Ex1.retN {e : Expr} {pos : Pos} {d : D} {N : Ctx → Prop} (h1 : EvE Γ sc k e σ d σ1) (hN : N σ1) : Ex1 Γ sc k (.Return (some e) pos) σ (.retN d N) := by
  intro A env P g s Q R S q
  exact wpAny_Return_some (h1 A env P g s _ R S trivial fun v P1 g1 h1' t1 st1 S1 a1 => q _ _ _ _ _ _ hN st1 S1 a1)
theorem ExS.retN {st : Stmt} {rest : List Stmt} {d : D} {N : Ctx → Prop} (h1 : Ex1 Γ sc k st σ (.retN d N)) : ExS Γ sc k (st :: rest) σ (.retN d N) := by
  intro A env P g s Q R S q
  exact wpAny_execs_cons (h1 A env P g s _ R S q)
theorem ExS.retO {st : Stmt} {rest : List Stmt} {o : OC} (h1 : Ex1 Γ sc k st σ (.retO o)) : ExS Γ sc k (st :: rest) σ (.retO o) := by
  intro A env P g s Q R S q
  exact wpAny_execs_cons (h1 A env P g s _ R S q)
theorem Ex1.ite {test : Expr} {body orelse : List Stmt} {pos : Pos} {c : Bool} {o : Out} (h1 : EvT Γ sc k test σ c σ1) (ht : c = true → ExS Γ sc k body σ1 o) (hf : c = false → ExS Γ sc k orelse σ1 o) : Ex1 Γ sc k (.If test body orelse pos) σ o := by
  intro A env P g s Q R S q
  refine wpAny_If (h1 A env P g s _ R S trivial fun b P1 g1 h1' t1 st1 S1 a1 => ?_)
  subst a1
  cases b with
  | true => exact ht rfl A env P1 g1 _ _ R S1 (q.after st1)
  | false => exact hf rfl A env P1 g1 _ _ R S1 (q.after st1)
theorem Ex1.expr {e : Expr} {pos : Pos} {d : D} (h1 : EvE Γ sc k e σ d σ1) (hi : ∀ env, env.scope = sc → interactive env = false := by intro env h; unfold interactive; rw [h]; rfl) (hs : ∀ env, swapsWith e none pos.line env = pure false := by intro _; with_unfolding_all rfl) : Ex1 Γ sc k (.Expr e pos) σ (.to σ1) := by
  intro A env P g s Q R S q
  exact wpAny_Expr_any (h1 A env P g s _ R S trivial fun v P1 g1 h1' t1 st1 S1 a1 => q _ _ _ _ _ rfl st1 S1) (hi env S.scope) (hs env)

theorem Ex1.assign {e : Expr} {x : Str} {p' pos : Pos} {d : D} (h1 : EvE Γ sc k e σ d σ1) (hx : Stored sc x) (hs : ∀ env, swapsWith e (some (.Name x p')) pos.line env = pure false := by intro _; with_unfolding_all rfl) :
    Ex1 Γ sc k (.Assign [.Name x p'] e pos) σ (.to (upd σ1 x (.d d))) := by
  intro A env P g s Q R S q
  refine wpAny_Assign_Name (h1 A env P g s _ R S trivial fun v P1 g1 h1' t1 st1 S1 a1 => ?_) (hs env)
  exact store_d S1 hx a1 fun h' tk st2 S2 => q _ _ _ _ _ rfl (st1.trans st2) S2
theorem Ex1.aug {e : Expr} {x : Str} {op : Operator} {p' pos : Pos} {a b c : D} (ha : σ.lookup x = some (.d a)) (h1 : EvE Γ sc k e σ b σ1) (h2 : InpS Γ k op a b c) (hx : Stored sc x) : Ex1 Γ sc k (.AugAssign (.Name x p') op e pos) σ (.to (upd σ1 x (.d c))) := by
  intro A env P g s Q R S q
  refine wpAny_AugAssign_Name (load_d S ha fun v r => ?_)
  refine h1 A env P g s _ R S trivial fun v1 P1 g1 h1' t1 st1 S1 a1 => ?_
  refine h2 sc σ1 v v1 A env P1 g1 _ _ R S1 ⟨r.mono st1.grow, a1⟩ fun v3 P3 g3 h3' t3 st3 S3 a3 => ?_
  exact store_d S3 hx a3 fun h' tk st2 S2 => q _ _ _ _ _ rfl ((st1.trans st3).trans st2) S2

noncomputable def EvO (Γ : Gl) (sc : Scope) (k : Nat) (e : Expr) (σ : Ctx) (o : OC) (σ' : Ctx) : Prop :=
  ∀ (A : Around) (env : Env) (P : List Addr) (g : GM) (s : Shared) (Q : Value → Shared → Prop), Room A k → St Γ sc σ P g env s.heap →
    (∀ a P' g' h' tk, Step P P' g g' s.heap h' → St Γ sc σ' P' g' env h' → Tmp a o P' g' h' → s.heap.get? a = none → Q (.ref a) { s with heap := h', toks := tk }) →
    wpAny (model Γ.prog Γ.w) A (eval e env) Q noE s

theorem Ex1.retO {e : Expr} {pos : Pos} {o : OC} (h1 : EvO Γ sc k e σ o σ1) : Ex1 Γ sc k (.Return (some e) pos) σ (.retO o) := by
  intro A env P g s Q R S q
  exact wpAny_Return_some (h1 A env P g s _ R S fun a P1 g1 h1' t1 st1 S1 t n => q _ _ _ _ _ st1 S1.stay t.has t.free n)

theorem St.tmp {P : List Addr} {g : GM} {env : Env} {h : Heap} (S : St Γ sc σ P g env h) {vs : List Value} {ds : List D} (hv : AtL g vs ds) : St Γ sc σ P g env (h.push (listObj vs 0)) ∧ Tmp h.objs.size (.list ds) P g (h.push (listObj vs 0)) ∧ h.get? h.objs.size = none := by
  have hn : h.get? h.objs.size = none := by
    cases q : h.get? h.objs.size with
    | none => rfl
    | some z => exact absurd (Heap.lt_size q) (Nat.lt_irrefl _)
  refine ⟨S.kept fun a x e => Heap.get?_push_of_some _ e, ⟨⟨vs, 0, Heap.get?_push_size _ rfl, hv⟩, fun hp => ?_, ?_⟩, hn⟩
  · obtain ⟨o, e⟩ := S.inn _ hp
    rw [hn] at e; cases e
  · cases q : g h.objs.size with
    | none => rfl
    | some z => rw [S.stay _ _ q] at hn; cases hn
theorem Step.push {P : List Addr} {g : GM} {h : Heap} (o : Obj) : Step P P g g h (h.push o) := Step.of_keep fun a x e => Heap.get?_push_of_some _ e
theorem Step.fresh {P P' : List Addr} {g g' : GM} {h h' : Heap} (x : Step P P' g g' h h') {a : Addr} (n : h'.get? a = none) : h.get? a = none := by
  cases q : h.get? a with
  | none => rfl
  | some o => obtain ⟨o', e⟩ := x.more a o q; rw [n] at e; cases e

theorem EvO.lst {es : List Expr} {pos : Pos} {ds : List D} (h1 : EvL Γ sc k es σ ds σ1) (hn : ds.length ≤ 1000 := by decide) : EvO Γ sc k (.List es pos) σ (.list ds) σ1 := by
  intro A env P g s Q R S q
  refine wpAny_List (h1 pos A env P g s _ R S trivial fun vs P1 g1 h1' t1 st1 S1 a1 => ?_)
  refine ⟨by rw [atL_len a1]; exact Nat.le_trans hn (by decide +kernel), ?_⟩
  obtain ⟨S2, t, n⟩ := S1.tmp a1
  exact q _ _ _ _ _ (st1.trans (Step.push _)) S2 t (st1.fresh n)
theorem Ex1.assignO {e : Expr} {x : Str} {p' pos : Pos} {o : OC} (h1 : EvO Γ sc k e σ o σ1) (hx : Stored sc x) (hs : ∀ env, swapsWith e (some (.Name x p')) pos.line env = pure false := by intro _; with_unfolding_all rfl) :
    Ex1 Γ sc k (.Assign [.Name x p'] e pos) σ (.next fun σ' => ∃ a, σ' = upd σ1 x (.own a o)) := by
  intro A env P g s Q R S q
  refine wpAny_Assign_Name (h1 A env P g s _ R S fun a P1 g1 h1' t1 st1 S1 t n => ?_) (hs env)
  exact store_o S1 hx t fun P' h' tk w _ S2 => q _ _ _ _ _ ⟨a, rfl⟩ (w _ _ _ st1 n) S2

inductive MV where
  | d (x : D)
  | o (o : OC)
noncomputable def RepM (P : List Addr) (g : GM) (h : Heap) : List Value → List AV → List Addr → Prop
  | [], [], [] => True
  | v :: vs, .d d :: as, T => At g v d ∧ RepM P g h vs as T
  | v :: vs, .own a o :: as, t :: T => (v = .ref t ∧ a = t) ∧ Tmp t o P g h ∧ RepM P g h vs as T
  | _, _, _ => False
noncomputable def fill : List MV → List Addr → List AV
  | [], _ => []
  | .d d :: ms, T => .d d :: fill ms T
  | .o o :: ms, t :: T => .own t o :: fill ms T
  | .o _ :: _, [] => []
noncomputable def owns : List MV → Nat
  | [] => 0
  | .d _ :: ms => owns ms
  | .o _ :: ms => owns ms + 1
theorem fill_len : ∀ (ms : List MV) (T : List Addr), T.length = owns ms → (fill ms T).length = ms.length
  | [], _, _ => rfl
  | .d d :: ms, T, h => by simp [fill, fill_len ms T h]
  | .o o :: ms, [], h => by simp [owns] at h
  | .o o :: ms, t :: T, h => by simp [fill, fill_len ms T (by simpa [owns] using h)]

theorem RepM.d2 {P : List Addr} {g : GM} {h : Heap} {v : Value} {vs : List Value} {d : D} {as : List AV} {T : List Addr} (r : RepM P g h (v :: vs) (.d d :: as) T) : At g v d ∧ RepM P g h vs as T := r
theorem RepM.o2 {P : List Addr} {g : GM} {h : Heap} {v : Value} {vs : List Value} {a : Addr} {o : OC} {as : List AV} {t : Addr} {T : List Addr} (r : RepM P g h (v :: vs) (.own a o :: as) (t :: T)) : (v = .ref t ∧ a = t) ∧ Tmp t o P g h ∧ RepM P g h vs as T := r
theorem RepM.imp {P P' : List Addr} {g g' : GM} {h h' : Heap} (le : g.le g') : ∀ {vs : List Value} {as : List AV} {T : List Addr}, (∀ t o, t ∈ T → Tmp t o P g h → Tmp t o P' g' h') → RepM P g h vs as T → RepM P' g' h' vs as T
  | [], [], [], _, _ => trivial
  | v :: vs, .d d :: as, T, f, r => ⟨At.mono le r.d2.1, RepM.imp le f r.d2.2⟩
  | v :: vs, .own a o :: as, t :: T, f, r => ⟨r.o2.1, f t o (.head _) r.o2.2.1, RepM.imp le (fun t o ht => f t o (.tail _ ht)) r.o2.2.2⟩
theorem RepM.step {P P' : List Addr} {g g' : GM} {h h' : Heap} (st : Step P P' g g' h h') {vs : List Value} {as : List AV} {T : List Addr} (r : RepM P g h vs as T) : RepM P' g' h' vs as T :=
  r.imp st.grow fun _ _ _ t => t.step st
theorem RepM.len {P : List Addr} {g : GM} {h : Heap} : ∀ {vs : List Value} {as : List AV} {T : List Addr}, RepM P g h vs as T → vs.length = as.length
  | [], [], [], _ => rfl
  | v :: vs, .d d :: as, T, r => congrArg (· + 1) (RepM.len r.d2.2)
  | v :: vs, .own a o :: as, t :: T, r => congrArg (· + 1) (RepM.len r.o2.2.2)
theorem RepM.app {P : List Addr} {g : GM} {h : Heap} {ws : List Value} {bs : List AV} {U : List Addr} (r' : RepM P g h ws bs U) : ∀ {vs : List Value} {as : List AV} {T : List Addr}, RepM P g h vs as T → RepM P g h (vs ++ ws) (as ++ bs) (T ++ U)
  | [], [], [], _ => r'
  | v :: vs, .d d :: as, T, r => ⟨r.d2.1, RepM.app r' r.d2.2⟩
  | v :: vs, .own a o :: as, t :: T, r => ⟨r.o2.1, r.o2.2.1, RepM.app r' r.o2.2.2⟩
theorem RepM.rev {P : List Addr} {g : GM} {h : Heap} : ∀ {vs : List Value} {as : List AV} {T : List Addr}, RepM P g h vs as T → RepM P g h vs.reverse as.reverse T.reverse
  | [], [], [], _ => trivial
  | v :: vs, .d d :: as, T, r => by
    rw [List.reverse_cons, List.reverse_cons, ← List.append_nil T.reverse]
    exact RepM.app (ws := [v]) (bs := [.d d]) (U := []) ⟨r.d2.1, trivial⟩ (RepM.rev r.d2.2)
  | v :: vs, .own a o :: as, t :: T, r => by
    rw [List.reverse_cons, List.reverse_cons, List.reverse_cons]
    exact RepM.app (ws := [v]) (bs := [.own a o]) (U := [t]) ⟨r.o2.1, r.o2.2.1, trivial⟩ (RepM.rev r.o2.2.2)

noncomputable def EvM (Γ : Gl) (sc : Scope) (k : Nat) (es : List Expr) (σ : Ctx) (ms : List MV) (σ' : Ctx) : Prop :=
  ∀ (pos : Pos) (A : Around) (env : Env) (P : List Addr) (g : GM) (s : Shared) (Q : List Value → Shared → Prop), Room A k → St Γ sc σ P g env s.heap →
    (∀ vs T P' g' h' tk, Step P P' g g' s.heap h' → St Γ sc σ' P' g' env h' → T.length = owns ms → RepM P' g' h' vs (fill ms T) T → T.Nodup → (∀ t ∈ T, s.heap.get? t = none) → Q vs { s with heap := h', toks := tk }) →
    wpAny (model Γ.prog Γ.w) A (spliced (backTo pos (starEach es env))) Q noE s
theorem EvM.nil : EvM Γ sc k [] σ [] σ := by
  intro pos A env P g s Q R S q
  exact wpAny_items_nil (q _ [] _ _ _ _ Step.refl S rfl trivial .nil (fun _ h => nomatch h))
theorem EvM.d {e : Expr} {rest : List Expr} {d : D} {ds : List MV} (h1 : EvE Γ sc k e σ d σ1) (h2 : EvM Γ sc k rest σ1 ds σ2) (he : ∀ env, starEach (e :: rest) env = (false, eval e env) :: starEach rest env := by intro _; with_unfolding_all rfl) : EvM Γ sc k (e :: rest) σ (.d d :: ds) σ2 := by
  intro pos A env P g s Q R S q
  refine wpAny_items_cons (h1 A env P g s _ R S trivial fun v P1 g1 h1' t1 st1 S1 a1 => ?_) (he env)
  refine h2 pos A env P1 g1 _ _ R S1 fun vs T P3 g3 h3' t3 st3 S3 hT a3 N F => ?_
  exact q _ T _ _ _ _ (st1.trans st3) S3 hT ⟨a1.mono st3.grow, a3⟩ N fun t ht => st1.fresh (F t ht)
theorem EvM.o {e : Expr} {rest : List Expr} {o : OC} {ds : List MV} (h1 : EvO Γ sc k e σ o σ1) (h2 : EvM Γ sc k rest σ1 ds σ2) (he : ∀ env, starEach (e :: rest) env = (false, eval e env) :: starEach rest env := by intro _; with_unfolding_all rfl) : EvM Γ sc k (e :: rest) σ (.o o :: ds) σ2 := by
  intro pos A env P g s Q R S q
  refine wpAny_items_cons (h1 A env P g s _ R S fun a P1 g1 h1' t1 st1 S1 t n => ?_) (he env)
  refine h2 pos A env P1 g1 _ _ R S1 fun vs T P3 g3 h3' t3 st3 S3 hT a3 N F => ?_
  refine q _ (a :: T) _ _ _ _ (st1.trans st3) S3 (by simp [owns, hT]) ⟨⟨rfl, rfl⟩, t.step st3, a3⟩ (List.nodup_cons.mpr ⟨fun ha => ?_, N⟩) fun b hb => ?_
  · obtain ⟨x, e⟩ := t.has.there
    rw [F a ha] at e; cases e
  · rcases List.mem_cons.mp hb with rfl | hb
    · exact n
    · exact st1.fresh (F b hb)

noncomputable def updAll : Ctx → List Str → List AV → Ctx
  | σ, x :: xs, a :: as => updAll (upd σ x a) xs as
  | σ, _, _ => σ

inductive Binds (M : Model) (A : Around) (env : Env) : List Str → List (Value → Sem Unit) → Prop
  | nil : Binds M A env [] []
  | cons {n : Str} {f : Value → Sem Unit} {ns : List Str} {fs : List (Value → Sem Unit)} (h : ∀ v Q E s, wpAny M A (storeName env n v) Q E s → wpAny M A (f v) Q E s) (r : Binds M A env ns fs) : Binds M A env (n :: ns) (f :: fs)
theorem Binds.names {M : Model} {A : Around} {env : Env} : ∀ ns : List Str, Binds M A env ns (ns.map fun n v => bindName env n v)
  | [] => .nil
  | n :: ns => .cons (fun _ _ _ _ h => wpAny_bindName h) (Binds.names ns)
inductive NamesOf : List Expr → List Str → Prop
  | nil : NamesOf [] []
  | cons {n : Str} {p : Pos} {es : List Expr} {ns : List Str} (r : NamesOf es ns) : NamesOf (.Name n p :: es) (n :: ns)
theorem NamesOf.binds {M : Model} {A : Around} {env : Env} {es : List Expr} {ns : List Str} (h : NamesOf es ns) : Binds M A env ns ((assignEach es env).map (·.2)) := by
  induction h with
  | nil => exact .nil
  | cons r ih => exact .cons (fun _ _ _ _ h => wpAny_assign_Name h) ih
theorem NamesOf.len {env : Env} {es : List Expr} {ns : List Str} (h : NamesOf es ns) : (assignEach es env).length = ns.length ∧ (assignEach es env).findIdx? (·.1) = none := by
  induction h with
  | nil => exact ⟨rfl, rfl⟩
  | @cons n p es ns r ih =>
    have e : assignEach (.Name n p :: es) env = (false, assign (.Name n p) env) :: assignEach es env := rfl
    rw [e]
    exact ⟨by simp [ih.1], by simp [List.findIdx?_cons, ih.2]⟩

theorem bind_all {M : Model} {A : Around} {E : Value → Shared → Prop} {env : Env} (avs : List AV) : ∀ (ns : List Str) (fs : List (Value → Sem Unit)) (vs : List Value) (T : List Addr) (σ : Ctx) (P : List Addr) (g : GM) (s : Shared) (Q : Unit → Shared → Prop),
    Binds M A env ns fs → ns.length = avs.length → (∀ n ∈ ns, Stored sc n) → St Γ sc σ P g env s.heap → RepM P g s.heap vs avs T → T.Nodup →
    (∀ P' h' tk, (∀ hb P0 g0, Step P0 P g0 g hb s.heap → (∀ t ∈ T, hb.get? t = none) → Step P0 P' g0 g hb h') → St Γ sc (updAll σ ns avs) P' g env h' → Q () { s with heap := h', toks := tk }) →
    wpAny M A (assignInOrder fs vs) Q E s := by
  induction avs with
  | nil =>
    intro ns fs vs T σ P g s Q hb hl hs S r N q
    cases hb with
    | cons _ _ => cases hl
    | nil =>
      have : assignInOrder [] vs = pure () := by cases vs <;> rfl
      rw [this]
      exact wpAny_pure (q P s.heap s.toks (fun _ _ _ st _ => st) S)
  | cons av avs ih =>
    intro ns fs vs T σ P g s Q hb hl hs S r N q
    cases hb with
    | nil => cases hl
    | @cons n f ns fs hf hb' =>
      have hl' : ns.length = avs.length := by simpa using hl
      have hs' : ∀ m ∈ ns, Stored sc m := fun m hm => hs m (.tail _ hm)
      cases vs with
      | nil => cases av <;> exact r.elim
      | cons v vs =>
        refine wpAny_assignInOrder_more (hf _ _ _ _ ?_)
        cases av with
        | d d =>
          obtain ⟨a, r⟩ := r
          refine store_d S (hs n (.head _)) a fun h' tk st S' => ?_
          exact ih ns fs vs T _ P g _ Q hb' hl' hs' S' (r.step st) N fun P' h2 tk2 w S2 => q P' h2 tk2 (fun hb P0 g0 st0 F => w hb P0 g0 (st0.trans st) F) S2
        | own a0 o =>
          cases T with
          | nil => exact r.elim
          | cons t T =>
            obtain ⟨⟨e, e'⟩, a, r⟩ := r
            subst e' e
            have N' := List.nodup_cons.mp N
            refine store_o S (hs n (.head _)) a fun P1 h' tk w1 keep S' => ?_
            exact ih ns fs vs T _ P1 g _ Q hb' hl' hs' S' (r.imp GM.le.rfl' fun b o' hb tb => keep b o' tb fun e => N'.1 (e ▸ hb)) N'.2 fun P' h2 tk2 w S2 =>
              q P' h2 tk2 (fun hb P0 g0 st0 F => w hb P0 g0 (w1 hb P0 g0 st0 (F _ (.head _))) fun x hx => F x (.tail _ hx)) S2

theorem nodup_rev {α : Type} {l : List α} (h : l.Nodup) : l.reverse.Nodup := List.pairwise_reverse.mpr (h.imp fun h e => h e.symm)

theorem lookup_updAll : ∀ (ns : List Str) (avs : List AV) (σ : Ctx) (y : Str), ns.length = avs.length → ns.Nodup → (updAll σ ns avs).lookup y = ((ns.zip avs).lookup y).or (σ.lookup y) := by
  intro ns
  induction ns with
  | nil =>
    intro avs σ y hl N
    obtain rfl := List.length_eq_zero_iff.mp hl.symm
    rfl
  | cons n ns ih =>
    intro avs σ y hl N
    cases avs with
    | nil => cases hl
    | cons a avs =>
      obtain ⟨N1, N2⟩ := List.nodup_cons.mp N
      show (updAll (upd σ n a) ns avs).lookup y = _
      rw [ih avs (upd σ n a) y (Nat.succ.inj hl) N2, lookup_upd, List.zip_cons_cons, List.lookup_cons]
      by_cases h : y = n
      · subst h
        have : (ns.zip avs).lookup y = none := by
          cases q : (ns.zip avs).lookup y with
          | none => rfl
          | some b => exact absurd (List.of_mem_zip (mem_of_lookup' q)).1 N1
        rw [this, if_pos rfl, beq_self_eq_true]; rfl
      · rw [if_neg h, beq_eq_false_iff_ne.mpr h]
theorem zip_lookup_reverse (ns : List Str) (avs : List AV) (y : Str) (hl : ns.length = avs.length) (N : ns.Nodup) : (ns.reverse.zip avs.reverse).lookup y = (ns.zip avs).lookup y := by
  have key : ∀ (l : List (Str × AV)), (l.map (·.1)).Nodup → ∀ y, l.reverse.lookup y = l.lookup y := by
    intro l
    induction l with
    | nil => intro _ _; rfl
    | cons p r ih =>
      intro hn y
      obtain ⟨n, a⟩ := p
      rw [List.map_cons] at hn
      have hn' := List.nodup_cons.mp hn
      rw [List.reverse_cons, List.lookup_append, ih hn'.2, List.lookup_cons, List.lookup_cons]
      by_cases h : y = n
      · subst h
        have : r.lookup y = none := by
          cases q : r.lookup y with
          | none => rfl
          | some b => exact absurd (List.mem_map_of_mem (f := Prod.fst) (mem_of_lookup' q)) hn'.1
        simp [this]
      · rw [beq_eq_false_iff_ne.mpr h]; simp
  have e : ns.reverse.zip avs.reverse = (ns.zip avs).reverse := by
    rw [List.zip_eq_zipWith, List.zip_eq_zipWith, List.reverse_zipWith hl]
  rw [e]
  refine key _ ?_ y
  rw [List.map_fst_zip (by omega)]; exact N

theorem Ex1.assignTR {ts es : List Expr} {n n' : Nat} {tp ep pos : Pos} {ns : List Str} {ms : List MV} (h1 : EvM Γ sc k es σ ms σ1) (hl : ns.length = ms.length) (hx : ∀ n ∈ ns, Stored sc n) (hN : ns.Nodup)
    (hw : ∀ env, env.scope = sc → swappedStores [.Tuple ts n tp] (.Tuple es n' ep) env = pure (some ns)) (hn : ns.length ≤ 1000 := by decide) :
    Ex1 Γ sc k (.Assign [.Tuple ts n tp] (.Tuple es n' ep) pos) σ (.next fun σ' => ∃ T, T.length = owns ms ∧ σ' = updAll σ1 ns (fill ms T)) := by
  intro A env P g s Q R S q
  refine Assign_Tuple_swapped (names := ns) ?_ rfl (hw env S.scope)
  refine wpAny_Tuple (h1 ep A env P g s _ R S fun vs T P1 g1 h1' t1 st1 S1 hT r N F => ?_)
  have hl : ns.length = (fill ms T).length := by rw [fill_len ms T hT]; exact hl
  refine ⟨by rw [r.len, ← hl]; exact Nat.le_trans hn (by decide +kernel), ?_⟩
  have st2 := st1.trans (Step.push (P := P1) (g := g1) (h := h1') (tupObj vs 0))
  have S2 := S1.kept (h' := h1'.push (tupObj vs 0)) fun a x e => Heap.get?_push_of_some _ e
  have r2 := r.step (Step.push (P := P1) (g := g1) (h := h1') (tupObj vs 0))
  have ht : IsTup (h1'.push (tupObj vs 0)) h1'.objs.size vs.toArray := ⟨_, Heap.get?_push_size _ rfl, rfl, _, rfl⟩
  have hsz : vs.toArray.size = ns.length := by rw [List.size_toArray, r.len, hl]
  rw [← hsz]
  refine unpackItems_tuple (s := { s with heap := h1'.push (tupObj vs 0), toks := t1 }) R.handled ht fun h3 hk => ?_
  have kk : ∀ a o, (h1'.push (tupObj vs 0)).get? a = some o → h3.get? a = some o := fun a o e => hk a o (Nat.ne_of_lt (Heap.lt_size e)) e
  have S3 := S2.kept kk
  have st3 := st2.trans (Step.of_keep (P := P1) (g := g1) kk)
  have r3 := (r2.step (Step.of_keep (P := P1) (g := g1) kk)).rev
  refine bind_all (Γ := Γ) (sc := sc) (fill ms T).reverse ns.reverse _ vs.reverse T.reverse σ1 P1 g1 { s with heap := h3, toks := t1 } _ (Binds.names _) (by simp [hl]) (fun m hm => hx m (List.mem_reverse.mp hm)) S3 r3 (nodup_rev N) fun P' h' tk w S' => ?_
  refine q _ _ _ _ _ ⟨T, hT, rfl⟩ (w _ _ _ st3 fun t ht => F t (List.mem_reverse.mp ht)) (S'.weaken fun y av hy => ?_)
  rw [lookup_updAll _ _ _ _ (by simp [hl]) (nodup_rev hN), zip_lookup_reverse _ _ _ hl hN]
  rw [lookup_updAll _ _ _ _ hl hN] at hy
  exact hy

theorem Ex1.assignTF {ts es : List Expr} {n n' : Nat} {tp ep pos : Pos} {ns : List Str} {ms : List MV} (h1 : EvM Γ sc k es σ ms σ1) (hN : NamesOf ts ns) (hl : ns.length = ms.length) (hx : ∀ n ∈ ns, Stored sc n)
    (hw : ∀ env, env.scope = sc → swappedStores [.Tuple ts n tp] (.Tuple es n' ep) env = pure none) (hn : ns.length ≤ 1000 := by decide) :
    Ex1 Γ sc k (.Assign [.Tuple ts n tp] (.Tuple es n' ep) pos) σ (.next fun σ' => ∃ T, T.length = owns ms ∧ σ' = updAll σ1 ns (fill ms T)) := by
  intro A env P g s Q R S q
  refine Assign_Tuple ?_ rfl (hw env S.scope)
  refine wpAny_Tuple (h1 ep A env P g s _ R S fun vs T P1 g1 h1' t1 st1 S1 hT r N F => ?_)
  have hl : ns.length = (fill ms T).length := by rw [fill_len ms T hT]; exact hl
  refine ⟨by rw [r.len, ← hl]; exact Nat.le_trans hn (by decide +kernel), ?_⟩
  have st2 := st1.trans (Step.push (P := P1) (g := g1) (h := h1') (tupObj vs 0))
  have S2 := S1.kept (h' := h1'.push (tupObj vs 0)) fun a x e => Heap.get?_push_of_some _ e
  have r2 := r.step (Step.push (P := P1) (g := g1) (h := h1') (tupObj vs 0))
  have ht : (h1'.push (tupObj vs 0)).IsTuple h1'.objs.size vs.toArray := ⟨_, Heap.get?_push_size _ rfl, rfl, _, rfl⟩
  have hsz : vs.toArray.size = ns.length := by rw [List.size_toArray, r.len, hl]
  refine wpAny_assign_Tuple (s := { s with heap := h1'.push (tupObj vs 0), toks := t1 }) R.handled ht (by rw [hsz]; exact hN.len.1) hN.len.2 fun h3 hk => ?_
  have kk : ∀ a o, (h1'.push (tupObj vs 0)).get? a = some o → h3.get? a = some o := fun a o e => hk a o (Nat.ne_of_lt (Heap.lt_size e)) e
  have S3 := S2.kept kk
  have st3 := st2.trans (Step.of_keep (P := P1) (g := g1) kk)
  have r3 := r2.step (Step.of_keep (P := P1) (g := g1) kk)
  refine bind_all (Γ := Γ) (sc := sc) (fill ms T) ns _ vs T σ1 P1 g1 { s with heap := h3, toks := t1 } _ hN.binds hl hx S3 r3 N fun P' h' tk w S' => ?_
  exact q _ _ _ _ _ ⟨T, hT, rfl⟩ (w _ _ _ st3 F) S'
end Mine
end

section
open PySem PySem.W PyProof.Rows PySem.Calls
set_option maxRecDepth 100000
namespace Mine
variable {Γ : Gl} {sc : Scope} {k : Nat} {σ σ1 σ2 σ3 : Ctx}

noncomputable def AsgD (Γ : Gl) (sc : Scope) (k : Nat) (t : Expr) (σ : Ctx) (d : D) (σ' : Ctx) : Prop := ∀ v, Tri Γ sc k (fun env => assign t env v) (fun g => At g v d) σ σ' fun _ _ => True
noncomputable def AsgL (Γ : Gl) (sc : Scope) (k : Nat) (ts : List Expr) (σ : Ctx) (ds : List D) (σ' : Ctx) : Prop :=
  ∀ vs, Tri Γ sc k (fun env => assignInOrder ((assignEach ts env).map (·.2)) vs) (fun g => AtL g vs ds) σ σ' fun _ _ => True
theorem AsgD.name {x : Str} {pos : Pos} {d : D} (hx : Stored sc x) : AsgD Γ sc k (.Name x pos) σ d (upd σ x (.d d)) := by
  intro v A env P g s Q R S a q
  exact wpAny_assign_Name (store_d S hx a fun h' tk st S' => q _ _ _ _ _ st S' trivial)
theorem AsgL.nil : AsgL Γ sc k [] σ [] σ := by
  intro vs A env P g s Q R S a q
  dsimp only
  have : assignInOrder ((assignEach [] env).map (·.2)) vs = pure () := by cases vs <;> rfl
  rw [this]
  exact wpAny_pure (q _ _ _ _ _ Step.refl S trivial)
theorem AsgL.cons {t : Expr} {ts : List Expr} {d : D} {ds : List D} (h1 : AsgD Γ sc k t σ d σ1) (h2 : AsgL Γ sc k ts σ1 ds σ2)
    (he : ∀ env, (assignEach (t :: ts) env).map (·.2) = assign t env :: (assignEach ts env).map (·.2) := by intro _; with_unfolding_all rfl) : AsgL Γ sc k (t :: ts) σ (d :: ds) σ2 := by
  intro vs A env P g s Q R S a q
  obtain ⟨v, r, rfl, a1, a2⟩ := atL_cons_inv a
  dsimp only
  rw [he]
  refine wpAny_assignInOrder_more (h1 v A env P g s _ R S a1 fun _ P1 g1 h1' t1 st1 S1 _ => ?_)
  exact h2 r A env P1 g1 _ _ R S1 (a2.mono st1.grow) fun _ P3 g3 h3' t3 st3 S3 _ => q _ _ _ _ _ (st1.trans st3) S3 trivial
theorem AsgD.tup {ts : List Expr} {n : Nat} {pos : Pos} {ds : List D} (h : AsgL Γ sc k ts σ ds σ1) (hn : ∀ env, (assignEach ts env).length = ds.length := by intro _; with_unfolding_all rfl)
    (hstar : ∀ env, (assignEach ts env).findIdx? (·.1) = none := by intro _; with_unfolding_all rfl) : AsgD Γ sc k (.Tuple ts n pos) σ (.tup ds) σ1 := by
  intro v A env P g s Q R S a q
  obtain ⟨ad, vs, e, rfl, ga, r⟩ := at_tup a
  dsimp only
  have ht : s.heap.IsTuple ad vs.toArray := ⟨_, S.stay _ _ ga, rfl, e, rfl⟩
  refine wpAny_assign_Tuple R.handled ht (by rw [hn, List.size_toArray, atL_len r]) (hstar env) fun h' hk => ?_
  have kk : ∀ a o, s.heap.get? a = some o → h'.get? a = some o := fun a o e => hk a o (Nat.ne_of_lt (Heap.lt_size e)) e
  refine h vs A env P g { s with heap := h' } _ R (S.kept kk) r fun _ P3 g3 h3' t3 st3 S3 _ => ?_
  exact q _ _ _ _ _ ((Step.of_keep kk).trans st3) S3 trivial
theorem Ex1.unpack {ts : List Expr} {e : Expr} {n : Nat} {tp pos : Pos} {d : D} (h1 : EvE Γ sc k e σ d σ1) (h2 : AsgD Γ sc k (.Tuple ts n tp) σ1 d σ2)
    (hs : ∀ env, swapsWithSole [.Tuple ts n tp] e pos.line env = pure false := by intro _; with_unfolding_all rfl) (hw : ∀ env, env.scope = sc → swappedStores [.Tuple ts n tp] e env = pure none) :
    Ex1 Γ sc k (.Assign [.Tuple ts n tp] e pos) σ (.to σ2) := by
  intro A env P g s Q R S q
  refine Assign_Tuple (h1 A env P g s _ R S trivial fun v P1 g1 h1' t1 st1 S1 a1 => ?_) (hs env) (hw env S.scope)
  exact h2 v A env P1 g1 _ _ R S1 a1 fun _ P3 g3 h3' t3 st3 S3 _ => q _ _ _ _ _ rfl (st1.trans st3) S3


noncomputable abbrev idx (n : Nat) (i : Int) : Option Nat := seqIndex? i n
theorem idx_some {m : Int} {n j : Nat} (h : (if (decide (0 ≤ m) && decide (m < n)) = true then some m.toNat else none) = some j) : 0 ≤ m ∧ m < n ∧ j = m.toNat := by
  split at h
  · rename_i c
    obtain ⟨a, b⟩ := Bool.and_eq_true_iff.mp c
    exact ⟨of_decide_eq_true a, of_decide_eq_true b, (Option.some.inj h).symm⟩
  · cases h
theorem idx_iff {n : Nat} {i : Int} {j : Nat} (h : idx n i = some j) : (0 ≤ i ∧ i < n ∧ j = i.toNat) ∨ (i < 0 ∧ -(n : Int) ≤ i ∧ j = (i + n).toNat) := by
  have h : (if (decide (0 ≤ (if i < 0 then i + (n : Int) else i)) && decide ((if i < 0 then i + (n : Int) else i) < n)) = true then some (if i < 0 then i + (n : Int) else i).toNat else none) = some j := h
  by_cases hi : i < 0
  · rw [if_pos hi] at h
    obtain ⟨h1, _, h3⟩ := idx_some h
    exact .inr ⟨hi, by omega, h3⟩
  · rw [if_neg hi] at h
    exact .inl (idx_some h)
theorem idx_nn {n : Nat} {i : Int} (h0 : 0 ≤ i) (h1 : i < n) : idx n i = some i.toNat := by
  unfold idx seqIndex?
  have : ¬ i < 0 := by omega
  simp [this, h0, h1]
theorem idx_nat {n i : Nat} (h1 : i < n) : idx n (i : Int) = some i := idx_nn (by omega) (by omega)
theorem idx_neg {n m : Nat} (h0 : 0 < m) (h1 : m ≤ n) : idx n (-(m : Int)) = some (n - m) := by
  unfold idx seqIndex?
  have h2 : (-(m : Int)) < 0 := by omega
  have h3 : 0 ≤ -(m : Int) + (n : Int) := by omega
  have h4 : -(m : Int) + (n : Int) < n := by omega
  have h5 : (-(m : Int) + (n : Int)).toNat = n - m := by omega
  simp only [h2, if_true, h3, h4, decide_true, Bool.and_self, h5]

noncomputable def GetS (Γ : Gl) (k : Nat) (a : D) (i : Int) (c : D) : Prop := ∀ A g s (Q : Value → Shared → Prop) v1 u, Room A k → (∀ a o, g a = some o → s.heap.get? a = some o) → At g v1 a → (∀ v, At g v c → Q v s) →
  (∃ T id, s.TypeIs v1 T ∧ typeLookup (.type T) "__getitem__" = pure (some (.builtin id))) ∧ wpAny (model Γ.prog Γ.w) A (getItem v1 (.int i u)) Q noE s

theorem list_item {l : Addr} {vs : List Value} {s : Shared} {A : Around} {E : Value → Shared → Prop} {i : Int} {u : Tok} {j : Nat} {v : Value} {Q : Value → Shared → Prop} {prog : Program} {w : World} (hl : s.heap.IsList l vs.toArray) (hj : idx vs.length i = some j) (hv : vs[j]? = some v) (hn : vs.length < 2 ^ 62)
    (h : Q v s) : wpAny (model prog w) A (getItem (.ref l) (.int i u)) Q E s := by
  rcases idx_iff hj with ⟨h0, h1, rfl⟩ | ⟨h0, h1, rfl⟩
  · exact wpAny_getItem_list hl h0 (by omega) (by simpa using hv) h
  · exact wpAny_getItem_list_neg hl h0 (by simpa using h1) (by omega) (by simpa using hv) h
theorem GetS.list {ds : List D} {i : Int} {j : Nat} {d : D} (hj : idx ds.length i = some j) (hd : ds[j]? = some d) (hn : ds.length < 2 ^ 62) : GetS Γ k (.list ds) i d := by
  intro A g s Q v1 u R st a q
  obtain ⟨ad, vs, e, rfl, ga, r⟩ := at_list a
  have hl : s.heap.IsList ad vs.toArray := ⟨_, st _ _ ga, rfl, e, rfl⟩
  obtain ⟨v, hv, hat⟩ := atL_get r hd
  rw [← atL_len r] at hj hn
  exact ⟨⟨_, _, hl.typeIs, slot_list_getitem.lookup⟩, list_item hl hj hv hn (q v hat)⟩
theorem GetS.tup {ds : List D} {i : Int} {j : Nat} {d : D} (hj : idx ds.length i = some j) (hd : ds[j]? = some d) (hn : ds.length < 2 ^ 62) : GetS Γ k (.tup ds) i d := by
  intro A g s Q v1 u R st a q
  obtain ⟨ad, vs, e, rfl, ga, r⟩ := at_tup a
  have hl : IsTup s.heap ad vs.toArray := ⟨_, st _ _ ga, rfl, e, rfl⟩
  obtain ⟨v, hv, hat⟩ := atL_get r hd
  rw [← atL_len r] at hj hn
  have hb : -(2 ^ 62 : Int) ≤ i ∧ i < 2 ^ 62 := by
    rcases idx_iff hj with ⟨h0, h1, _⟩ | ⟨h0, h1, _⟩ <;> omega
  exact ⟨⟨_, _, hl.typeIs, slot_tuple_getitem.lookup⟩, PyProof.Rows.getItem_tuple hl (by omega) (by omega) (by simpa using hj) (by simpa using hv) (q v hat)⟩
noncomputable def NoSlice (e : Expr) : Prop := ∀ o i, subscripted e false o i = operate [o, i] (getItem o i)
theorem EvE.sub {value ix : Expr} {pos : Pos} {a c : D} {i : Int} (h1 : EvE Γ sc k value σ a σ1) (h2 : EvE Γ sc k ix σ1 (.int i) σ2) (h3 : GetS Γ k a i c) (hs : NoSlice ix := by intro _ _; with_unfolding_all rfl) : EvE Γ sc k (.Subscript value ix pos) σ c σ2 := by
  intro A env P g s Q R S _ q
  refine Subscript_ (h1 A env P g s _ R S trivial fun v1 P1 g1 h1' t1 st1 S1 a1 => ?_)
  refine h2 A env P1 g1 _ _ R S1 trivial fun v2 P2 g2 h2' t2 st2 S2 a2 => ?_
  obtain ⟨u, rfl⟩ := at_int a2
  have G := h3 A g2 { s with heap := h2', toks := t2 } Q v1 u R S2.stay (a1.mono st2.grow) fun v hv => q _ _ _ _ _ (st1.trans st2) S2 hv
  obtain ⟨⟨T, id, hT, hl⟩, hg⟩ := G
  exact tail_any hT hl hg (hs _ _)

theorem own_list {P : List Addr} {g : GM} {env : Env} {h : Heap} (S : St Γ sc σ P g env h) {x : Str} {a : Addr} {xs : List D} (hx : σ.lookup x = some (.own a (.list xs))) :
    ∃ m vs n, h.Ns env.locals m ∧ Loc sc env m h x (.ref a) ∧ h.get? a = some (listObj vs n) ∧ AtL g vs xs := by
  obtain ⟨m, os, B⟩ := S.body
  obtain ⟨v, l, rfl, la, vs, n, e, hvs⟩ := B.names x _ hx
  exact ⟨m, vs, n, B.ns, l, e, hvs⟩
theorem EvE.subOwn {x : Str} {px pos : Pos} {ix : Expr} {a : Addr} {xs : List D} {i : Int} {j : Nat} {d : D} (hx : σ.lookup x = some (.own a (.list xs))) (h2 : EvE Γ sc k ix σ (.int i) σ1) (hx1 : σ1.lookup x = some (.own a (.list xs)))
    (hj : idx xs.length i = some j) (hd : xs[j]? = some d) (hn : xs.length < 2 ^ 62) (hs : NoSlice ix := by intro _ _; with_unfolding_all rfl) (hdb : (x == ("__debug__" : Str)) = false := by decide +kernel) : EvE Γ sc k (.Subscript (.Name x px) ix pos) σ d σ1 := by
  intro A env P g s Q R S _ q
  obtain ⟨m, vs, n, ns, l, e, hvs⟩ := own_list S hx
  refine Subscript_ (wpAny_Name (loadName_any S ns l ?_) hdb)
  refine h2 A env P g _ _ R S trivial fun v2 P2 g2 h2' t2 st2 S2 a2 => ?_
  obtain ⟨u, rfl⟩ := at_int a2
  obtain ⟨m', vs', n', ns', l', e', hvs'⟩ := own_list S2 hx1
  have hl : h2'.IsList a vs'.toArray := ⟨_, e', rfl, n', rfl⟩
  obtain ⟨v, hv, hat⟩ := atL_get hvs' hd
  rw [← atL_len hvs'] at hj hn
  exact tail_any (Heap.IsList.typeIs (s := { s with heap := h2', toks := t2 }) hl) slot_list_getitem.lookup (list_item (s := { s with heap := h2', toks := t2 }) hl hj hv hn (q _ _ _ _ _ st2 S2 hat)) (hs _ _)

noncomputable def EvB (Γ : Gl) (sc : Scope) (k : Nat) (e : Option Expr) (σ : Ctx) (i : Option Int) (σ' : Ctx) : Prop := Tri Γ sc k (evalPart e) T1 σ σ' fun _ v => IsPart v i
theorem EvB.no : EvB Γ sc k Option.none σ Option.none σ := by
  intro A env P g s Q R S _ q
  exact wpAny_evalPart_none (q _ _ _ _ _ Step.refl S .none)
theorem EvB.int {e : Expr} {i : Int} (h : EvE Γ sc k e σ (.int i) σ1) : EvB Γ sc k (some e) σ (some i) σ1 := by
  intro A env P g s Q R S _ q
  refine wpAny_evalPart_some (h A env P g s _ R S trivial fun v P1 g1 h1' t1 st1 S1 a1 => ?_)
  obtain ⟨t, rfl⟩ := at_int a1
  exact q _ _ _ _ _ st1 S1 (.int _ _)
theorem sliceBounds_upto (b n : Nat) : sliceBounds Option.none (some (b : Int)) Option.none n = sliceBounds Option.none (some ((min b n : Nat) : Int)) Option.none n := by
  unfold sliceBounds
  have h1 : ¬ ((b : Int) < 0) := by omega
  have h2 : ¬ (((min b n : Nat) : Int) < 0) := by omega
  have h3 : min (b : Int) (n : Int) = min ((min b n : Nat) : Int) (n : Int) := by omega
  have h4 : (1 : Int) > 0 := by decide
  simp only [Option.getD_none, h1, h2, if_false, h3, h4, if_true]
theorem pick_upto (items : Array Value) (b : Nat) : (slicePick items Option.none (some (b : Int)) Option.none).toList = items.toList.take b := by
  have e : slicePick items Option.none (some (b : Int)) Option.none = slicePick items Option.none (some ((min b items.size : Nat) : Int)) Option.none := by
    unfold slicePick
    rw [sliceBounds_upto]
  rw [e, slicePick_upto items _ (Nat.min_le_right _ _)]
  show List.take (min b items.size) items.toList = List.take b items.toList
  by_cases h : b ≤ items.size
  · rw [Nat.min_eq_left h]
  · rw [Nat.min_eq_right (by omega), List.take_of_length_le (by simp), List.take_of_length_le (by simpa using by omega)]
theorem sliceBounds_from (a n : Nat) : sliceBounds (some (a : Int)) Option.none Option.none n = sliceBounds (some ((min a n : Nat) : Int)) Option.none Option.none n := by
  unfold sliceBounds
  have h1 : ¬ ((a : Int) < 0) := by omega
  have h2 : ¬ (((min a n : Nat) : Int) < 0) := by omega
  have h3 : min (a : Int) (n : Int) = min ((min a n : Nat) : Int) (n : Int) := by omega
  have h4 : (1 : Int) > 0 := by decide
  simp only [Option.getD_none, h1, h2, if_false, h3, h4, if_true]
theorem pick_from (items : Array Value) (a : Nat) : (slicePick items (some (a : Int)) Option.none Option.none).toList = items.toList.drop a := by
  have e : slicePick items (some (a : Int)) Option.none Option.none = slicePick items (some ((min a items.size : Nat) : Int)) Option.none Option.none := by
    unfold slicePick
    rw [sliceBounds_from]
  rw [e, slicePick_from items _ (Nat.min_le_right _ _)]
  by_cases h : a ≤ items.size
  · rw [Nat.min_eq_left h]
  · rw [Nat.min_eq_right (by omega)]
    rw [List.drop_eq_nil_of_le (by simp), List.drop_eq_nil_of_le (by simpa using by omega)]

theorem EvE.slice {value : Expr} {lo hi : Option Expr} {p pos : Pos} {ds : List D} {a b : Option Int} (h1 : EvE Γ sc k value σ (.list ds) σ1) (h2 : EvB Γ sc k lo σ1 a σ2) (h3 : EvB Γ sc k hi σ2 b σ3) {es : List D}
    (he : ∀ vs : List Value, ∀ g, AtL g vs ds → AtL g (slicePick vs.toArray a b Option.none).toList es) (hn : ds.length ≤ 2 ^ 24) :
    EvE Γ sc k (.Subscript value (.Slice lo hi Option.none p) pos) σ (.list es) σ3 := by
  intro A env P g s Q R S _ q
  refine Subscript_ (h1 A env P g s _ R S trivial fun v1 P1 g1 h1' t1 st1 S1 a1 => ?_)
  refine wpAny_Slice (h2 A env P1 g1 _ _ R S1 trivial fun vl P2 g2 h2' t2 st2 S2 a2 => ?_)
  refine h3 A env P2 g2 _ _ R S2 trivial fun vu P3 g3 h3' t3 st3 S3 a3 => wpAny_evalPart_none ?_
  obtain ⟨ad, vs, e, rfl, ga, r⟩ := at_list (a1.mono (st2.grow.trans st3.grow))
  have hl : h3'.IsList ad vs.toArray := ⟨_, S3.stay _ _ ga, rfl, e, rfl⟩
  have hl' := hl.push { cls := .type "slice", data := .fields #[vl, vu, .none] }
  refine tail_any (Heap.IsList.typeIs (s := { s with heap := h3'.push { cls := .type "slice", data := .fields #[vl, vu, .none] }, toks := t3 }) hl') slot_list_getitem.lookup
    (wpAny_getItem_list_slice hl' (Heap.IsSliceOf.new ..) a2 a3 .none (by simp) ?_ (by rw [List.size_toArray, atL_len r]; exact hn)) rfl
  have S4 := S3.kept (h' := h3'.push { cls := .type "slice", data := .fields #[vl, vu, .none] }) fun a x e => Heap.get?_push_of_some _ e
  obtain ⟨S5, st5, e5⟩ := S4.alloc (o := listObj (slicePick vs.toArray a b Option.none).toList 0)
  have st4 : Step P3 P3 g3 g3 h3' (h3'.push { cls := .type "slice", data := .fields #[vl, vu, .none] }) := Step.push _
  have := q _ _ _ _ t3 ((((st1.trans st2).trans st3).trans st4).trans st5) S5 (mk_list e5 (AtL.mono st5.grow (he vs g3 r)))
  exact this
theorem EvE.upto {value hi : Expr} {p pos : Pos} {ds : List D} {b : Int} (h1 : EvE Γ sc k value σ (.list ds) σ1) (h3 : EvE Γ sc k hi σ1 (.int b) σ2) (hb : 0 ≤ b) (hn : ds.length ≤ 2 ^ 24) :
    EvE Γ sc k (.Subscript value (.Slice Option.none (some hi) Option.none p) pos) σ (.list (ds.take b.toNat)) σ2 :=
  EvE.slice h1 .no (.int h3) (fun vs g r => by
    have : b = ((b.toNat : Nat) : Int) := by omega
    rw [this, pick_upto]; exact atL_take _ r) hn
theorem EvE.from {value lo : Expr} {p pos : Pos} {ds : List D} {b : Int} (h1 : EvE Γ sc k value σ (.list ds) σ1) (h3 : EvE Γ sc k lo σ1 (.int b) σ2) (hb : 0 ≤ b) (hn : ds.length ≤ 2 ^ 24) :
    EvE Γ sc k (.Subscript value (.Slice (some lo) Option.none Option.none p) pos) σ (.list (ds.drop b.toNat)) σ2 :=
  EvE.slice h1 (.int h3) .no (fun vs g r => by
    have : b = ((b.toNat : Nat) : Int) := by omega
    rw [this, pick_from]; exact atL_drop _ r) hn
end Mine
end

section
open PySem PySem.W PyProof.Rows PySem.Calls
set_option maxRecDepth 100000
namespace Mine
variable {Γ : Gl} {sc : Scope} {k : Nat} {σ σ1 σ2 σ3 : Ctx}

noncomputable def CallF (Γ : Gl) (k : Nat) (n : Str) (ds : List D) (d : D) : Prop :=
  GOk Γ.mg Γ.mb Γ.h0 → ∃ f o fd, Γ.mg n = some (.ref f) ∧ Γ.h0.get? f = some o ∧ o.data = .func fd ∧
    ∀ (A : Around) (g : GM) (s : Shared) (vs : List Value) (Q : Value → Shared → Prop), Room A k → (∀ a o, Γ.h0.get? a = some o → g a = some o) → (∀ a o, g a = some o → s.heap.get? a = some o) → AtL g vs ds →
      (∀ v g' h' tk, Step [] [] g g' s.heap h' → (∀ a o, g' a = some o → h'.get? a = some o) → At g' v d → Q v { s with heap := h', toks := tk }) →
      codeAny (model Γ.prog Γ.w) A (.call (.ref f) ⟨vs, []⟩) (fun r s' => match r with | .ok (.ret v) => Q v s' | .ok _ => False | .error e => noE e s') s

theorem St.called {P : List Addr} {g g' : GM} {env : Env} {h h' : Heap} (S : St Γ sc σ P g env h) (st : Step [] [] g g' h h') (hs : ∀ a o, g' a = some o → h'.get? a = some o) : St Γ sc σ P g' env h' ∧ Step P P g g' h h' := by
  have kk : ∀ a o, h.get? a = some o → h'.get? a = some o := fun a o e => (st.keep a o e (fun h => nomatch h)).1
  have S1 := S.kept kk
  have off : ∀ p ∈ P, g' p = none := fun p hp => by
    cases q : g' p with
    | none => rfl
    | some z =>
      obtain ⟨o, e⟩ := S.inn p hp
      rcases st.new p z q with h1 | h1 | h1
      · rw [S.off p hp] at h1; cases h1
      · cases h1
      · rw [e] at h1; cases h1
  obtain ⟨m, os, B⟩ := S1.body
  refine ⟨{ S1 with base := fun a o e => st.grow _ _ (S.base a o e), stay := hs, off := off, body := ⟨m, os, { B with names := fun y av hy => ?_ }⟩ }, ⟨fun a o e n => ⟨kk a o e, n⟩, st.grow, fun a o e => ?_, fun a o e => ⟨o, kk a o e⟩⟩⟩
  · obtain ⟨v, l, r⟩ := B.names y av hy
    exact ⟨v, l, r.kept st.grow fun _ _ _ e => e⟩
  · rcases st.new a o e with h1 | h1 | h1
    · exact .inl h1
    · cases h1
    · exact .inr (.inr h1)

theorem EvE.global {A : Around} {env : Env} {P : List Addr} {g : GM} {s : Shared} {Q : Value → Shared → Prop} {x : Str} {pos : Pos} {v : Value} {E : Value → Shared → Prop} {M : Model} (S : St Γ sc σ P g env s.heap)
    (hx : sc.names.lookup x = some .globalImplicit) (hv : Γ.mg x = some v) (h : Q v s) (hd : (x == ("__debug__" : Str)) = false) : wpAny M A (eval (.Name x pos) env) Q E s := by
  refine Name_function_global S.kindF ((S.kindOf x).trans hx) (loadGlobal_global (mg := Γ.mg) ?_ hv h) hd
  rw [S.globals]; exact S.ok.g.keeps S.base0
theorem EvE.builtin {A : Around} {env : Env} {P : List Addr} {g : GM} {s : Shared} {Q : Value → Shared → Prop} {x : Str} {pos : Pos} {v : Value} {E : Value → Shared → Prop} {M : Model} (S : St Γ sc σ P g env s.heap)
    (hx : sc.names.lookup x = some .globalImplicit) (hf : x ∈ usedB) (hn : x ≠ "__name__") (hv : bootBuiltins x = some v) (h : Q v s) (hd : (x == ("__debug__" : Str)) = false) : wpAny M A (eval (.Name x pos) env) Q E s := by
  refine Name_function_global S.kindF ((S.kindOf x).trans hx) (loadGlobal_builtin (mg := Γ.mg) (mb := Γ.mb) ?_ (S.ok.free x hf) ?_ ((S.ok.builtins x hn).trans hv) h) hd
  · rw [S.globals]; exact S.ok.g.keeps S.base0
  · rw [S.builtins]; exact S.ok.b.keeps S.base0

theorem EvE.call {n : Str} {e : Expr} {es : List Expr} {np pos : Pos} {ds : List D} {d : D} (h1 : EvL Γ sc k (e :: es) σ ds σ1) (h2 : CallF Γ k n ds d) (hx : sc.names.lookup n = some .globalImplicit)
    (he : ∀ env, starEach (e :: es) env = (false, eval e env) :: starEach es env := by intro _; with_unfolding_all rfl) (hp : ∀ env, (backTo pos (starEach es env)).any (·.1) = false := by intro _; with_unfolding_all rfl) (hd : (n == ("__debug__" : Str)) = false := by decide +kernel) :
    EvE Γ sc k (.Call (.Name n np) (e :: es) [] pos) σ d σ1 := by
  intro A env P g s Q R S _ q
  obtain ⟨f, o, fd, hm, ho, hdat, H⟩ := h2 S.ok
  refine wpAny_Call_ofName (EvE.global S hx hm ?_ hd)
  show wpAny _ A (callWith pos (.ref f) [] (backTo pos (starEach (e :: es) env)) []) Q noE s
  refine callWith_function (o := o) (fd := fd) ?_
  have h1' := h1 pos A env P g s (fun vs s' => (s'.heap.get? f = some o ∧ o.data = .func fd) ∧ wpAny (model Γ.prog Γ.w) A (PySem.call (.ref f) ([] ++ vs) []) Q noE s') R S trivial fun vs P1 g1 h1' t1 st1 S1 a1 => ⟨⟨S1.base0 _ _ ho, hdat⟩, ?_⟩
  · have e2 : backTo pos (starEach (e :: es) env) = (false, eval e env) :: backTo pos (starEach es env) := by rw [he]; rfl
    rw [e2]
    refine evalArgs_plain ?_
    dsimp only at h1'
    rw [e2] at h1'
    exact h1'
  · exact wpAny_call (H A g1 _ vs Q R S1.base S1.stay a1 fun v g' h' tk st2 hs a2 => by
      obtain ⟨S2, st3⟩ := S1.called st2 hs
      exact q _ _ _ _ _ (st1.trans st3) S2 a2)

theorem bindL_miss (kf : Str → Option NameKind) : ∀ (bs : List (Str × Value)) (m : Str → Option Value) (x : Str), x ∉ bs.map (·.1) → bindL kf bs m x = m x
  | [], m, x, _ => rfl
  | (n, v) :: r, m, x, h => by
    rw [List.map_cons, List.mem_cons, not_or] at h
    unfold bindL
    rw [bindL_miss kf r _ x h.2]
    split
    · exact if_neg h.1
    · rfl
theorem bindC_miss (kf : Str → Option NameKind) : ∀ (bs : List (Str × Value)) (m : Str → Option Value) (x : Str), x ∉ bs.map (·.1) → bindC kf bs m x = m x
  | [], m, x, _ => rfl
  | (n, v) :: r, m, x, h => by
    rw [List.map_cons, List.mem_cons, not_or] at h
    unfold bindC
    rw [bindC_miss kf r _ x h.2]
    split
    · rfl
    · exact if_neg h.1
theorem bindL_get (kf : Str → Option NameKind) : ∀ (bs : List (Str × Value)) (m : Str → Option Value) (x : Str) (v : Value), (bs.map (·.1)).Nodup → (x, v) ∈ bs → kf x = some .local → bindL kf bs m x = some v
  | (n, u) :: r, m, x, v, N, h, hk => by
    rw [List.map_cons] at N
    have N' := List.nodup_cons.mp N
    unfold bindL
    rcases List.mem_cons.mp h with e | h
    · cases e
      rw [bindL_miss kf r _ _ N'.1, if_pos hk, if_pos rfl]
    · exact bindL_get kf r _ x v N'.2 h hk
theorem bindC_get (kf : Str → Option NameKind) : ∀ (bs : List (Str × Value)) (m : Str → Option Value) (x : Str) (v : Value), (bs.map (·.1)).Nodup → (x, v) ∈ bs → kf x = some .cell → bindC kf bs m x = some v
  | (n, u) :: r, m, x, v, N, h, hk => by
    rw [List.map_cons] at N
    have N' := List.nodup_cons.mp N
    unfold bindC
    rcases List.mem_cons.mp h with e | h
    · cases e
      rw [bindC_miss kf r _ _ N'.1, if_neg (by rw [hk]; decide), if_pos rfl]
    · exact bindC_get kf r _ x v N'.2 h hk
theorem zip_names {g : GM} {x : Str} {av : AV} : ∀ {ns : List Str} {vs : List Value} {ds : List D}, ns.length = ds.length → AtL g vs ds → (ns.zip (ds.map AV.d)).lookup x = some av → ∃ v d, av = .d d ∧ At g v d ∧ (x, v) ∈ ns.zip vs
  | [], _, [], _, _, h => by simp at h
  | n :: ns, _, d :: ds, hl, a, h => by
    obtain ⟨v, r, rfl, a1, a2⟩ := atL_cons_inv a
    rw [List.map_cons, List.zip_cons_cons, List.lookup_cons] at h
    cases hb : x == n with
    | true =>
      rw [hb] at h; cases h
      rw [beq_iff_eq.mp hb]
      exact ⟨v, d, rfl, a1, by simp⟩
    | false =>
      rw [hb] at h
      obtain ⟨v', d', e, a', m⟩ := zip_names (by simpa using hl) a2 h
      exact ⟨v', d', e, a', by rw [List.zip_cons_cons]; exact List.mem_cons_of_mem _ m⟩

theorem cellsFrom_names : ∀ (names : List (Str × NameKind)) (n : Nat) (acc : List (Str × Addr)), (∀ x ∈ names.map (·.1), x ∉ acc.map (·.1)) → (names.map (·.1)).Nodup → (acc.map (·.1)).Nodup → ((cellsFrom n names acc).map (·.1)).Nodup
  | [], n, acc, _, _, N => N
  | (x, kd) :: r, n, acc, h1, h2, N => by
    rw [List.map_cons] at h1 h2
    have h2' := List.nodup_cons.mp h2
    unfold cellsFrom
    split
    · refine cellsFrom_names r (n + 1) ((x, n) :: acc) (fun y hy => ?_) h2'.2 ?_
      · rw [List.map_cons, List.mem_cons, not_or]
        exact ⟨fun e => h2'.1 (e ▸ hy), h1 y (List.mem_cons_of_mem _ hy)⟩
      · rw [List.map_cons]
        exact List.nodup_cons.mpr ⟨h1 x (.head _), N⟩
    · exact cellsFrom_names r n acc (fun y hy => h1 y (List.mem_cons_of_mem _ hy)) h2'.2 N
theorem lookup_of_mem {α : Type} : ∀ {l : List (Str × α)} {x : Str} {c : α}, (l.map (·.1)).Nodup → (x, c) ∈ l → l.lookup x = some c
  | (y, d) :: r, x, c, N, h => by
    rw [List.map_cons] at N
    have N' := List.nodup_cons.mp N
    rw [List.lookup_cons]
    rcases List.mem_cons.mp h with e | h
    · cases e; simp
    · have : x ≠ y := fun (e : x = y) => N'.1 (e ▸ (List.mem_map.mpr ⟨(x, c), h, rfl⟩ : x ∈ r.map (·.1)))
      rw [beq_eq_false_iff_ne.mpr this]
      exact lookup_of_mem N'.2 h

noncomputable def Out.val : Out → D → Prop
  | .ret d, d' => d' = d
  | .next _, d' => d' = .none
  | .retN d _, d' => d' = d
  | .retO _, _ => False

theorem CallF.of {n : Str} {a : Arguments} {b : List Stmt} {ns : List Str} {ds : List D} {d : D} (hf : IsFn n a b sc) (hl : ns.length = ds.length)
    (hb : ∀ pm code doc vs, vs.length = ns.length → bindArgs (docDef n a b sc pm code doc) ⟨vs, []⟩ = pure (ns.zip vs))
    (hN : ns.Nodup) (hst : ∀ x ∈ ns, Stored sc x) {o : Out} (hbody : ExS Γ sc k b (ns.zip (ds.map AV.d)) o) (ho' : o.val d := by exact rfl) (hsn : (sc.names.map (·.1)).Nodup := by decide +kernel)
    (hk : sc.kind = .function := by with_unfolding_all rfl) (hco : sc.isCoroutine = false := by with_unfolding_all rfl) (hgen : sc.isGenerator = false := by with_unfolding_all rfl) : CallF Γ (k + 1) n ds d := by
  intro G
  obtain ⟨f, of, pm, code, doc, hm, ho, hdat, hcode⟩ := G.fn n a b sc hf
  refine ⟨f, of, _, hm, ho, hdat, fun A g s vs Q R base stay hvs q => ?_⟩
  have b0 : ∀ a o, Γ.h0.get? a = some o → s.heap.get? a = some o := fun a o e => stay a o (base a o e)
  have hlen : vs.length = ns.length := by rw [atL_len hvs, hl]
  have cellSome : ∀ m x, sc.names.lookup x = some .cell → ((cellsFrom m sc.names []).lookup x).isSome = true := fun m x hx => cellsFrom_some _ _ _ (.inl hx)
  refine codeAny_call_cells (binds := ns.zip vs) (by have := R.depth; simp only [recursionLimit]; omega) (b0 _ _ ho) hdat (G.nolimit.keeps b0) (hcode.keeps b0) rfl (hb pm code doc vs hlen) rfl (fun x hx => ?_) (fun s₁ X => ?_) hco hgen hk
  · have hx1 : x.1 ∈ ns := (List.of_mem_zip hx).1
    rcases hst x.1 hx1 with h1 | h1
    · exact .inl h1
    · exact .inr ⟨h1, cellSome _ _ h1⟩
  · obtain ⟨h1, tk1, e1⟩ := X.toInCall.same
    subst e1
    have hfst : ((ns.zip vs).map (·.1)) = ns := List.map_fst_zip (by omega)
    let env : Env := callEnvC (docDef n a b sc pm code doc) s.heap.objs.size f
    have old : ∀ a o, s.heap.get? a = some o → h1.get? a = some o := X.toInCall.keep
    have hL : s.heap.objs.size ≤ env.locals := X.toInCall.fresh
    have fresh : ∀ p ∈ env.locals :: (env.cells.map (·.2) ++ ([] : List (Str × Addr)).map (·.2)), s.heap.get? p = none := fun p hp => by
      have : s.heap.objs.size ≤ p := by
        rcases List.mem_cons.mp hp with rfl | hp
        · exact hL
        · simp only [List.map_nil, List.append_nil] at hp
          obtain ⟨⟨y, c⟩, hc, rfl⟩ := List.mem_map.mp hp
          exact Nat.le_of_lt (Nat.lt_of_le_of_lt hL (X.above y c hc))
      cases q : s.heap.get? p with
      | none => rfl
      | some z => exact absurd (Heap.lt_size q) (Nat.not_lt.mpr this)
    have Cell : ∀ x, sc.names.lookup x = some .cell → ∃ c, env.cells.lookup x = some c ∧ h1.IsCell c (bindC env.kindOf (ns.zip vs) (fun _ => none) x) := fun x hx => by
      obtain ⟨c, hc⟩ := Option.isSome_iff_exists.mp (cellSome (s.heap.objs.size + 1) x hx)
      exact ⟨c, hc, X.cell x c hc⟩
    have B : StB sc (ns.zip (ds.map AV.d)) (env.locals :: (env.cells.map (·.2) ++ ([] : List (Str × Addr)).map (·.2))) g env h1 (bindL env.kindOf (ns.zip vs) fun _ => none) [] := by
      refine ⟨X.toInCall.ns, rfl, fun x hx => ?_, fun x av hx => ?_⟩
      · obtain ⟨c, hc, hv⟩ := Cell x hx; exact ⟨c, _, hc, hv⟩
      · obtain ⟨v, d', rfl, ha, hm⟩ := zip_names hl hvs hx
        refine ⟨v, ?_, ha⟩
        rcases hst x (List.of_mem_zip hm).1 with h2 | h2
        · exact .inl ⟨h2, bindL_get env.kindOf _ _ x v (by rw [hfst]; exact hN) hm h2⟩
        · obtain ⟨c, hc, hv⟩ := Cell x h2
          rw [bindC_get env.kindOf _ _ x v (by rw [hfst]; exact hN) hm h2] at hv
          exact .inr ⟨h2, c, hc, hv⟩
    have S : St Γ sc (ns.zip (ds.map AV.d)) (env.locals :: (env.cells.map (·.2) ++ ([] : List (Str × Addr)).map (·.2))) g env h1 := by
      refine { scope := rfl, kind := hk, globals := rfl, builtins := rfl, ok := G, base := base, stay := fun a o e => old a o (stay a o e), off := fun p hp => ?_, inn := fun p hp => ?_, apart := ?_, body := ⟨_, _, B⟩ }
      · cases q : g p with
        | none => rfl
        | some z => have := stay p z q; rw [fresh p hp] at this; cases this
      · rcases List.mem_cons.mp hp with rfl | hp
        · exact ns_there X.toInCall.ns
        · simp only [List.map_nil, List.append_nil] at hp
          obtain ⟨⟨y, c⟩, hc, rfl⟩ := List.mem_map.mp hp
          have hc2 : env.cells.lookup y = some c := lookup_of_mem (cellsFrom_names _ _ [] (fun _ _ h => nomatch h) hsn .nil) hc
          exact Heap.IsCell.there (X.cell y c hc2)
      · simp only [List.map_nil, List.append_nil]
        refine List.nodup_cons.mpr ⟨fun hp => ?_, List.pairwise_map.mpr X.apart⟩
        obtain ⟨⟨y, c⟩, hc, e⟩ := List.mem_map.mp hp
        exact absurd (X.above y c hc) (by rw [show c = env.locals from e]; exact Nat.lt_irrefl _)
    have back : ∀ v P' g' h' tk, Step (env.locals :: (env.cells.map (·.2) ++ ([] : List (Str × Addr)).map (·.2))) P' g g' h1 h' → (∀ a o, g' a = some o → h'.get? a = some o) → At g' v d → Q v { s with heap := h', toks := tk } := by
      intro v P' g' h' tk st hs ha
      refine q v g' h' tk ⟨fun a o e n => ?_, st.grow, fun a o e => ?_, fun a o e => ?_⟩ hs ha
      · have hp : a ∉ env.locals :: (env.cells.map (·.2) ++ ([] : List (Str × Addr)).map (·.2)) := fun hp => by rw [fresh a hp] at e; cases e
        exact ⟨(st.keep a o (old a o e) hp).1, fun h => nomatch h⟩
      · rcases st.new a o e with h2 | h2 | h2
        · exact .inl h2
        · exact .inr (.inr (fresh a h2))
        · refine .inr (.inr ?_)
          cases q : s.heap.get? a with
          | none => rfl
          | some z => have h2 : h1.get? a = none := h2; rw [old a z q] at h2; cases h2
      · exact st.more a o (old a o e)
    refine wpAny_mono (hbody (A.deeper env) env _ g { s with heap := h1, toks := tk1 } (fun f s' => Q (match f with | .ret v => v | _ => .none) s') ⟨R.handled, by have := R.depth; show A.depth + 1 + k < 890; omega, by have := R.units; show A.units + 3 + 10 * k < 9800; omega⟩ S ?_) (fun f s' hq => hq) (fun _ _ e => e.elim)
    cases o with
    | retN d1 N =>
      have ho' : d = d1 := ho'
      subst ho'
      exact fun σ' v P' g' h' tk _ st S' ha => back v P' g' h' tk st S'.stay ha
    | retO o => exact ho'.elim
    | ret d1 =>
      have ho' : d = d1 := ho'
      subst ho'
      exact fun v P' g' h' tk st hs ha => back v P' g' h' tk st hs ha
    | next N =>
      have ho' : d = .none := ho'
      subst ho'
      exact fun σ' P' g' h' tk _ st S' => back .none P' g' h' tk st S'.stay mk_none
end Mine
end

section
open PySem PySem.W PyProof.Rows PySem.Calls
set_option maxRecDepth 100000
namespace Mine
variable {Γ : Gl} {sc : Scope} {k : Nat} {σ σ1 σ2 σ3 : Ctx}

noncomputable abbrev il (l : List Int) : D := .list (l.map .int)
noncomputable abbrev il' (l : List Int) : List D := l.map .int

noncomputable def BiS (Γ : Gl) (k : Nat) (f : Value) (ds : List D) (d : D) : Prop := ∀ sc σ vs, Tri Γ sc k (fun _ => call f vs) (fun g => AtL g vs ds) σ σ fun g v => At g v d

noncomputable def IsB (n : Str) (v : Value) : Prop := n ∈ usedB ∧ n ≠ "__name__" ∧ bootBuiltins n = some v
theorem b_len : IsB (Str.ofString "len") (.builtin "len") := by unfold IsB; decide +kernel
theorem b_abs : IsB (Str.ofString "abs") (.builtin "abs") := by unfold IsB; decide +kernel
theorem b_max : IsB (Str.ofString "max") (.builtin "max") := by unfold IsB; decide +kernel
theorem b_list : IsB (Str.ofString "list") (.type "list") := by unfold IsB; decide +kernel
theorem b_range : IsB (Str.ofString "range") (.type "range") := by unfold IsB; decide +kernel
theorem b_sum : IsB (Str.ofString "sum") (.builtin "sum") := by unfold IsB; decide +kernel
theorem b_any : IsB (Str.ofString "any") (.builtin "any") := by unfold IsB; decide +kernel
theorem b_isinstance : IsB (Str.ofString "isinstance") (.builtin "isinstance") := by unfold IsB; decide +kernel
theorem b_enumerate : IsB (Str.ofString "enumerate") (.type "enumerate") := by unfold IsB; decide +kernel
theorem b_reversed : IsB (Str.ofString "reversed") (.type "reversed") := by unfold IsB; decide +kernel
theorem EvE.bcall {n : Str} {id : String} {e : Expr} {es : List Expr} {np pos : Pos} {ds : List D} {d : D} (h1 : EvL Γ sc k (e :: es) σ ds σ1) (h2 : BiS Γ k (.builtin id) ds d) (hx : sc.names.lookup n = some .globalImplicit)
    (hB : IsB n (.builtin id))
    (he : ∀ env, starEach (e :: es) env = (false, eval e env) :: starEach es env := by intro _; with_unfolding_all rfl) (hp : ∀ env, (backTo pos (starEach es env)).any (·.1) = false := by intro _; with_unfolding_all rfl) (hd : (n == ("__debug__" : Str)) = false := by decide +kernel) :
    EvE Γ sc k (.Call (.Name n np) (e :: es) [] pos) σ d σ1 := by
  intro A env P g s Q R S _ q
  refine wpAny_Call_ofName (EvE.builtin S hx hB.1 hB.2.1 hB.2.2 ?_ hd)
  refine PyProof.Rows.callWith_builtin1 (h1 pos A env P g s _ R S trivial fun vs P1 g1 h1' t1 st1 S1 a1 => ?_) (he env) (hp env)
  exact h2 sc σ1 vs A env P1 g1 _ Q R S1 a1 fun v P3 g3 h3' t3 st3 S3 a3 => q _ _ _ _ _ (st1.trans st3) S3 a3
theorem EvE.tcall {n : Str} {id : String} {e : Expr} {es : List Expr} {np pos : Pos} {ds : List D} {d : D} (h1 : EvL Γ sc k (e :: es) σ ds σ1) (h2 : BiS Γ k (.type id) ds d) (hx : sc.names.lookup n = some .globalImplicit)
    (hB : IsB n (.type id))
    (he : ∀ env, starEach (e :: es) env = (false, eval e env) :: starEach es env := by intro _; with_unfolding_all rfl) (hp : ∀ env, (backTo pos (starEach es env)).any (·.1) = false := by intro _; with_unfolding_all rfl) (hd : (n == ("__debug__" : Str)) = false := by decide +kernel) :
    EvE Γ sc k (.Call (.Name n np) (e :: es) [] pos) σ d σ1 := by
  intro A env P g s Q R S _ q
  refine wpAny_Call_ofName (EvE.builtin S hx hB.1 hB.2.1 hB.2.2 ?_ hd)
  refine PyProof.Rows.callWith_type1 (h1 pos A env P g s _ R S trivial fun vs P1 g1 h1' t1 st1 S1 a1 => ?_) (he env) (hp env)
  exact h2 sc σ1 vs A env P1 g1 _ Q R S1 a1 fun v P3 g3 h3' t3 st3 S3 a3 => q _ _ _ _ _ (st1.trans st3) S3 a3

theorem atL_one {g : GM} {vs : List Value} {d : D} (h : AtL g vs [d]) : ∃ v, vs = [v] ∧ At g v d := by
  obtain ⟨v, r, rfl, h1, h2⟩ := atL_cons_inv h
  rw [atL_nil_inv h2]; exact ⟨v, rfl, h1⟩
theorem atL_two {g : GM} {vs : List Value} {d e : D} (h : AtL g vs [d, e]) : ∃ v u, vs = [v, u] ∧ At g v d ∧ At g u e := by
  obtain ⟨v, r, rfl, h1, h2⟩ := atL_cons_inv h
  obtain ⟨u, rfl, h3⟩ := atL_one h2
  exact ⟨v, u, rfl, h1, h3⟩
theorem ints_of {g : GM} : ∀ {l : List Int} {vs : List Value}, AtL g vs (l.map .int) → ∃ xs : List (Int × Tok), vs = xs.map (fun p => .int p.1 p.2) ∧ xs.map (·.1) = l
  | [], vs, h => ⟨[], by rw [atL_nil_inv h]; rfl, rfl⟩
  | i :: l, vs, h => by
    obtain ⟨v, r, rfl, h1, h2⟩ := atL_cons_inv h
    obtain ⟨t, rfl⟩ := at_int h1
    obtain ⟨xs, rfl, e⟩ := ints_of h2
    exact ⟨(i, t) :: xs, rfl, by simp [e]⟩
theorem bools_of {g : GM} : ∀ {l : List Bool} {vs : List Value}, AtL g vs (l.map .bool) → vs = l.map .bool
  | [], vs, h => by rw [atL_nil_inv h]; rfl
  | i :: l, vs, h => by
    obtain ⟨v, r, rfl, h1, h2⟩ := atL_cons_inv h
    cases at_bool h1
    rw [bools_of h2]; rfl

theorem BiS.lenL {ds : List D} (hn : ds.length < 2 ^ 62) : BiS Γ k (.builtin "len") [.list ds] (.int ds.length) := by
  intro sc σ vs A env P g s Q R S a q
  obtain ⟨v, rfl, a1⟩ := atL_one a
  obtain ⟨ad, vs, e, rfl, ga, r⟩ := at_list a1
  have hl : s.heap.IsList ad vs.toArray := ⟨_, S.stay _ _ ga, rfl, e, rfl⟩
  refine PyProof.Rows.len_list hl (by simp [atL_len r]; omega) ?_
  have := q (.int vs.length (s.toks + 1)) P g s.heap (s.toks + 1 + 1) Step.refl S (by rw [atL_len r]; exact mk_int)
  simpa using this
theorem BiS.abs {i : Int} : BiS Γ k (.builtin "abs") [.int i] (.int (if i < 0 then -i else i)) := by
  intro sc σ vs A env P g s Q R S a q
  obtain ⟨v, rfl, a1⟩ := atL_one a
  obtain ⟨t, rfl⟩ := at_int a1
  exact PyProof.Rows.call_abs_int fun u tk => q _ _ _ _ _ Step.refl S mk_int
theorem BiS.max2 {i j : Int} : BiS Γ k (.builtin "max") [.int i, .int j] (.int (if j > i then j else i)) := by
  intro sc σ vs A env P g s Q R S a q
  obtain ⟨v, u, rfl, a1, b⟩ := atL_two a
  obtain ⟨t, rfl⟩ := at_int a1
  obtain ⟨t', rfl⟩ := at_int b
  refine max_two_ints R.handled fun h' tk kk => ?_
  have := q (if j > i then .int j t' else .int i t) P g h' tk (Step.of_keep kk) (S.kept kk) (by split <;> exact mk_int)
  exact this
theorem BiS.sum {l : List Int} : BiS Γ k (.builtin "sum") [il l] (.int l.sum) := by
  intro sc σ vs A env P g s Q R S a q
  obtain ⟨v, rfl, a1⟩ := atL_one a
  obtain ⟨ad, vs, e, rfl, ga, r⟩ := at_list a1
  obtain ⟨xs, rfl, e2⟩ := ints_of r
  have hl : s.heap.IsList ad (intItems xs.toArray) := ⟨_, S.stay _ _ ga, rfl, e, by simp [intItems]⟩
  refine sum_intListG R.handled hl fun h' tk t' kk => ?_
  have e3 : preSum (numAt xs.toArray) xs.toArray.size = l.sum := by
    rw [preSum_eq, List.take_of_length_le (by simp), e2]
  rw [e3]
  exact q _ P g h' tk (Step.of_keep kk) (S.kept kk) mk_int
theorem BiS.maxl {l : List Int} {M : Int} (h1 : M ∈ l) (h2 : ∀ a ∈ l, a ≤ M) : BiS Γ k (.builtin "max") [il l] (.int M) := by
  intro sc σ vs A env P g s Q R S a q
  obtain ⟨v, rfl, a1⟩ := atL_one a
  obtain ⟨ad, vs, e, rfl, ga, r⟩ := at_list a1
  obtain ⟨xs, rfl, e2⟩ := ints_of r
  have hl : s.heap.IsList ad (intItems xs.toArray) := ⟨_, S.stay _ _ ga, rfl, e, by simp [intItems]⟩
  have hsz : 0 < xs.length := by
    cases xs with
    | nil => simp at e2; subst e2; cases h1
    | cons _ _ => simp
  refine max_intList R.handled hl (by simpa using hsz) fun v h' tk hv kk => ?_
  obtain ⟨t, rfl⟩ := intItems_at hv
  obtain ⟨m1, m2⟩ := argBest_gt (numAt xs.toArray) (xs.toArray.size - 1)
  have hM : numAt xs.toArray (argBest (fun i j => decide (numAt xs.toArray i > numAt xs.toArray j)) (xs.toArray.size - 1)) = M := by
    refine Int.le_antisymm (h2 _ ?_) ?_
    · rw [numAt_eq]
      rw [show xs.toArray.toList = xs from rfl, e2]
      exact getD_mem (by rw [← e2, List.length_map]; simp at m1 ⊢; omega)
    · obtain ⟨j, hj, rfl⟩ := mem_getD h1
      have := m2 j (by rw [← e2, List.length_map] at hj; simp; omega)
      rw [numAt_eq, show xs.toArray.toList = xs from rfl, e2] at this
      exact this
  rw [hM]
  exact q _ P g h' tk (Step.of_keep kk) (S.kept kk) mk_int
theorem BiS.any {l : List Bool} : BiS Γ k (.builtin "any") [.list (l.map .bool)] (.bool (l.any id)) := by
  intro sc σ vs A env P g s Q R S a q
  obtain ⟨v, rfl, a1⟩ := atL_one a
  obtain ⟨ad, vs, e, rfl, ga, r⟩ := at_list a1
  have e1 := bools_of r
  subst e1
  have hl : s.heap.IsList ad (l.map Value.bool).toArray := ⟨_, S.stay _ _ ga, rfl, e, rfl⟩
  have hlt : ad < s.heap.objs.size := by obtain ⟨_, e, _⟩ := hl; exact Heap.lt_size e
  refine call_any_walk (wpAny_pyIter_list hl ?_)
  refine ⟨s.heap.objs.size, [s.heap.objs.size, ad], [s.heap.objs.size], (l.map Value.bool).toArray.size, _, _, fun i => (l[i]?).getD false, rfl, Walks.list (A := A.in1) R.handled _ ad (Nat.ne_of_lt hlt) (l.map Value.bool).toArray,
    ⟨⟨_, Heap.get?_push_size _ rfl, rfl, rfl⟩, hl.push _⟩, fun i v s' Q' E' hP hQ => ?_, fun h' tk hk => ?_⟩
  · have hP' : (l.map Value.bool)[i]? = some v := by simpa using hP
    rw [List.getElem?_map] at hP'
    obtain ⟨b, hb, rfl⟩ := Option.map_eq_some_iff.mp hP'
    simp only [hb, Option.getD_some] at hQ
    exact wpAny_truthy_bool hQ
  · have e : ((List.range (l.map Value.bool).toArray.size).any fun i => (l[i]?).getD false) = l.any id := by
      rw [List.size_toArray, List.length_map]
      have : ∀ l : List Bool, ((List.range l.length).any fun i => (l[i]?).getD false) = l.any id := by
        intro l
        rw [Bool.eq_iff_iff]
        simp only [List.any_eq_true, List.mem_range, id]
        constructor
        · rintro ⟨i, hi, h⟩
          rw [List.getElem?_eq_getElem hi] at h
          exact ⟨_, List.getElem_mem hi, h⟩
        · rintro ⟨b, hb, h⟩
          obtain ⟨i, hi, rfl⟩ := List.getElem_of_mem hb
          exact ⟨i, hi, by rw [List.getElem?_eq_getElem hi]; exact h⟩
      exact this l
    rw [e]
    have kk : ∀ b x, s.heap.get? b = some x → h'.get? b = some x := fun b x e => hk b x (fun hm => by rw [List.mem_singleton.mp hm] at e; exact Nat.lt_irrefl _ (Heap.lt_size e)) (Heap.get?_push_of_some _ e)
    exact q _ P g h' tk (Step.of_keep kk) (S.kept kk) mk_bool
theorem BiS.list {ds : List D} (hn : ds.length ≤ 2 ^ 24) : BiS Γ k (.type "list") [.list ds] (.list ds) := by
  intro sc σ vs A env P g s Q R S a q
  obtain ⟨v, rfl, a1⟩ := atL_one a
  obtain ⟨ad, vs, e, rfl, ga, r⟩ := at_list a1
  refine call_list_seq ad (.inl rfl) (S.stay _ _ ga) rfl rfl (fun h' c' kk e2 => ?_) (by rw [List.size_toArray, atL_len r]; exact hn)
  have S1 := S.kept kk
  have hn : s.heap.objs.size ∉ P := fun hp => by
    obtain ⟨x, e⟩ := S.inn _ hp
    exact absurd (Heap.lt_size e) (Nat.lt_irrefl _)
  obtain ⟨S2, le⟩ := S1.freeze e2 hn
  refine q _ P _ h' _ ⟨fun a o e n => ⟨kk a o e, n⟩, le, fun a o e => ?_, fun a o e => ⟨o, kk a o e⟩⟩ S2 (mk_list (n := c') (by unfold GM.ins; rw [if_pos rfl]) (r.mono le))
  unfold GM.ins at e
  by_cases hb : a = s.heap.objs.size
  · refine .inr (.inr ?_)
    cases hq : s.heap.get? a with
    | none => rfl
    | some z => exact absurd (Heap.lt_size hq) (by rw [hb]; exact Nat.lt_irrefl _)
  · rw [if_neg hb] at e; exact .inl e

noncomputable def ExW (Γ : Gl) (sc : Scope) (k : Nat) (test : Expr) (body orelse : List Stmt) (σ : Ctx) (o : Out) : Prop :=
  ∀ (A : Around) (env : Env) (P : List Addr) (g : GM) (s : Shared) (Q : Flow → Shared → Prop), Room A k → St Γ sc σ P g env s.heap → PostS Γ sc env P g s o Q →
    codeAny (model Γ.prog Γ.w) A (.whileLoop test body orelse env) (fun r s' => match r with | .ok f => Q f s' | .error _ => False) s
theorem ExW.turn0 {A : Around} {test : Expr} {body orelse : List Stmt} {env : Env} {R : Result → Shared → Prop} {s : Shared} {prog : Program} {w : World}
    (h : wpAny (model prog w) A (isTrue test env (eval test env)) (fun b s₂ =>
        if b then wpAny (model prog w) A (execs body env) (fun f s₃ => match f with
            | .next | .cont => codeAny (model prog w) A (.whileLoop test body orelse env) R s₃
            | .brk => R (.ok .next) s₃
            | .ret v => R (.ok (.ret v)) s₃) noE s₂
        else wpAny (model prog w) A (execs orelse env) (fun f s₃ => R (.ok f) s₃) noE s₂) noE s) : codeAny (model prog w) A (.whileLoop test body orelse env) R s := by
  refine codeAny_of_tree ?_
  show wpAny _ A ((whileTurn test body orelse env).onRaise (fun x => do noteFrame x env; theTreesLotGoes x)) _ _ s
  refine wpAny_noted ?_
  simp only [whileTurn]
  refine wpAny_bind (wpAny_mono h (fun b s₂ h₂ => ?_) fun _ _ h' => h'.elim)
  cases b with
  | false =>
    simp only [Bool.false_eq_true, if_false] at h₂ ⊢
    exact wpAny_bind (wpAny_mono h₂ (fun f s₃ h₃ => wpAny_pure h₃) fun _ _ h' => h'.elim)
  | true =>
    simp only [if_true] at h₂ ⊢
    refine wpAny_bind (wpAny_mono h₂ (fun f s₃ h₃ => ?_) fun _ _ h' => h'.elim)
    cases f with
    | next => exact wpAny_pure ⟨rfl, h₃⟩
    | cont => exact wpAny_pure ⟨rfl, h₃⟩
    | brk => exact wpAny_pure h₃
    | ret v => exact wpAny_pure h₃
theorem ExW.stop {test : Expr} {body orelse : List Stmt} {o : Out} (h1 : EvT Γ sc k test σ false σ1) (h2 : ExS Γ sc k orelse σ1 o) : ExW Γ sc k test body orelse σ o := by
  intro A env P g s Q R S q
  refine ExW.turn0 (h1 A env P g s _ R S trivial fun b P1 g1 h1' t1 st1 S1 e => ?_)
  subst e
  exact h2 A env P1 g1 _ _ R S1 (q.after st1)
theorem ExW.turn {test : Expr} {body orelse : List Stmt} {o : Out} {N : Ctx → Prop} (h1 : EvT Γ sc k test σ true σ1) (h2 : ExS Γ sc k body σ1 (.next N)) (h3 : ∀ σ2, N σ2 → ExW Γ sc k test body orelse σ2 o) : ExW Γ sc k test body orelse σ o := by
  intro A env P g s Q R S q
  refine ExW.turn0 (h1 A env P g s _ R S trivial fun b P1 g1 h1' t1 st1 S1 e => ?_)
  subst e
  refine h2 A env P1 g1 _ _ R S1 fun σ2 P2 g2 h2' t2 n st2 S2 => ?_
  exact h3 σ2 n A env P2 g2 _ _ R S2 (q.after (st1.trans st2))
theorem ExW.turn' {test : Expr} {body orelse : List Stmt} {o : Out} (h1 : EvT Γ sc k test σ true σ1) (h2 : ExS Γ sc k body σ1 (.to σ2)) (h3 : ExW Γ sc k test body orelse σ2 o) : ExW Γ sc k test body orelse σ o :=
  ExW.turn h1 h2 fun _ e => e ▸ h3
theorem ExW.ret {test : Expr} {body orelse : List Stmt} {d : D} (h1 : EvT Γ sc k test σ true σ1) (h2 : ExS Γ sc k body σ1 (.ret d)) : ExW Γ sc k test body orelse σ (.ret d) := by
  intro A env P g s Q R S q
  refine ExW.turn0 (h1 A env P g s _ R S trivial fun b P1 g1 h1' t1 st1 S1 e => ?_)
  subst e
  exact h2 A env P1 g1 _ _ R S1 fun v P2 g2 h2' t2 st2 hs a => q v P2 g2 h2' t2 (st1.trans st2) hs a
theorem Ex1.while {test : Expr} {body orelse : List Stmt} {pos : Pos} {o : Out} (h : ExW Γ sc k test body orelse σ o) : Ex1 Γ sc k (.While test body orelse pos) σ o := by
  intro A env P g s Q R S q
  refine wpAny_While (codeAny_mono (h A env P g s Q R S q) fun r s' hr => ?_)
  cases r with
  | ok f => exact hr
  | error e => exact hr.elim

noncomputable def theStmt (i : Nat) : Stmt := (PySem.Challenge.pw_nn0275_01.main.body[i]?).getD (.Pass default)
noncomputable def fA (i : Nat) : Arguments := match theStmt i with | .FunctionDef _ a _ _ _ _ _ _ _ _ => a | _ => default
noncomputable def fB (i : Nat) : List Stmt := match theStmt i with | .FunctionDef _ _ b _ _ _ _ _ _ _ => b | _ => []
noncomputable def fS (i : Nat) : Scope := match theStmt i with | .FunctionDef _ _ _ _ _ _ s _ _ _ => s | _ => default
set_option tactic.hygienic true in
theorem isFn (i : Nat) (n : Str) (h : (match PySem.Challenge.pw_nn0275_01.main.body[i]? with | some (.FunctionDef m _ _ _ _ _ _ _ _ _) => m == n | _ => false) = true) : IsFn n (fA i) (fB i) (fS i) := by
  unfold fA fB fS theStmt
  split at h
  · rename_i m a b dl r tp sc' ts bd pos e
    rw [e]
    exact ⟨i, dl, r, tp, ts, bd, pos, by rw [e, beq_iff_eq.mp h]; rfl⟩
  · cases h

end Mine
end

section
open PySem PySem.W PyProof.Rows PySem.Calls
set_option maxRecDepth 100000
namespace Mine
variable {Γ : Gl} {sc : Scope} {k : Nat} {σ σ1 σ2 σ3 : Ctx}

theorem St.but {P : List Addr} {g : GM} {env : Env} {h h' : Heap} {wr : List Addr} (S : St Γ sc σ P g env h) (hP : ∀ b ∈ wr, b ∉ P) (hg : ∀ b ∈ wr, g b = none)
    (k : ∀ b o, b ∉ wr → h.get? b = some o → h'.get? b = some o) : St Γ sc σ P g env h' := by
  have kP : ∀ b ∈ P, ∀ o, h.get? b = some o → h'.get? b = some o := fun b hb o e => k b o (fun q => hP b q hb) e
  obtain ⟨m, os, B⟩ := S.body
  refine { S with stay := fun a o e => k a o (fun q => by rw [hg a q] at e; cases e) (S.stay a o e), inn := fun p hp => let ⟨o, e⟩ := S.inn p hp; ⟨o, kP p hp o e⟩, body := ⟨m, os, ?_⟩ }
  refine ⟨B.ns.at' fun o e => kP _ S.locals_mem o e, B.prot, fun x hx => ?_, fun x av hx => ?_⟩
  · obtain ⟨c, v, h1, o, h2, h3⟩ := B.cells x hx
    exact ⟨c, v, h1, o, kP _ (B.cell_mem h1) o h2, h3⟩
  · obtain ⟨v, h1, h2⟩ := B.names x av hx
    exact ⟨v, h1.kept fun c hc o e => kP c (B.cell_mem hc) o e, h2.kept GM.le.rfl' fun a ha o e => kP a (B.own_mem ha) o e⟩
theorem Step.but {P0 P : List Addr} {g0 g : GM} {hb h h' : Heap} {wr : List Addr} (x : Step P0 P g0 g hb h) (n : ∀ b ∈ wr, hb.get? b = none) (k : ∀ b o, b ∉ wr → h.get? b = some o → h'.get? b = some o) : Step P0 P g0 g hb h' where
  keep := fun a o e na => ⟨k a o (fun q => by rw [n a q] at e; cases e) (x.keep a o e na).1, (x.keep a o e na).2⟩
  grow := x.grow
  new := x.new
  more := fun a o e => let ⟨o', e'⟩ := x.more a o e; ⟨o', k a o' (fun q => by rw [n a q] at e; cases e) e'⟩

structure StepW (wr P P' : List Addr) (g g' : GM) (h h' : Heap) : Prop where
  keep : ∀ a o, h.get? a = some o → a ∉ wr → a ∉ P → h'.get? a = some o ∧ a ∉ P'
  grow : g.le g'
  new : ∀ a o, g' a = some o → g a = some o ∨ a ∈ P ∨ h.get? a = none
  more : ∀ a o, h.get? a = some o → ∃ o', h'.get? a = some o'
theorem StepW.refl {wr P : List Addr} {g : GM} {h : Heap} : StepW wr P P g g h h := ⟨fun _ _ e _ n => ⟨e, n⟩, GM.le.rfl', fun _ _ e => .inl e, fun _ o e => ⟨o, e⟩⟩
theorem Step.toW {wr P P' : List Addr} {g g' : GM} {h h' : Heap} (x : Step P P' g g' h h') : StepW wr P P' g g' h h' := ⟨fun a o e _ n => x.keep a o e n, x.grow, x.new, x.more⟩
theorem StepW.app {wr P0 P P' : List Addr} {g0 g g' : GM} {hb h h' : Heap} (x : Step P0 P g0 g hb h) (y : StepW wr P P' g g' h h') (n : ∀ b ∈ wr, hb.get? b = none) : Step P0 P' g0 g' hb h' where
  keep := fun a o e na => let ⟨b1, b2⟩ := x.keep a o e na; y.keep a o b1 (fun q => by rw [n a q] at e; cases e) b2
  grow := x.grow.trans y.grow
  more := fun a o e => let ⟨o1, e1⟩ := x.more a o e; y.more a o1 e1
  new := fun a o e => by
    rcases y.new a o e with e1 | e1 | e1
    · exact x.new a o e1
    · by_cases hp : a ∈ P0
      · exact .inr (.inl hp)
      · cases q : hb.get? a with
        | none => exact .inr (.inr rfl)
        | some z => exact absurd e1 (x.keep a z q hp).2
    · refine .inr (.inr ?_)
      cases q : hb.get? a with
      | none => rfl
      | some z => obtain ⟨z', e'⟩ := x.more a z q; rw [e1] at e'; cases e'
theorem StepW.trans {wr P P' P'' : List Addr} {g g' g'' : GM} {h h' h'' : Heap} (x : StepW wr P P' g g' h h') (y : StepW wr P' P'' g' g'' h' h'') (hw : ∀ b ∈ wr, b ∉ P') (hg : ∀ b ∈ wr, g'' b = none) : StepW wr P P'' g g'' h h'' where
  keep := fun a o e nw na => let ⟨b1, b2⟩ := x.keep a o e nw na; y.keep a o b1 nw b2
  grow := x.grow.trans y.grow
  more := fun a o e => let ⟨o1, e1⟩ := x.more a o e; y.more a o1 e1
  new := fun a o e => by
    rcases y.new a o e with e1 | e1 | e1
    · exact x.new a o e1
    · by_cases hp : a ∈ P
      · exact .inr (.inl hp)
      · cases q : h.get? a with
        | none => exact .inr (.inr rfl)
        | some z =>
          by_cases hq : a ∈ wr
          · rw [hg a hq] at e; cases e
          · exact absurd e1 (x.keep a z q hq hp).2
    · refine .inr (.inr ?_)
      cases q : h.get? a with
      | none => rfl
      | some z => obtain ⟨z', e'⟩ := x.more a z q; rw [e1] at e'; cases e'
theorem StepW.but {wr P P' : List Addr} {g g' : GM} {h h' h'' : Heap} (x : StepW wr P P' g g' h h') (k : ∀ b o, b ∉ wr → h'.get? b = some o → h''.get? b = some o) (l : ∀ b ∈ wr, ∃ o, h''.get? b = some o) : StepW wr P P' g g' h h'' where
  keep := fun a o e nw na => ⟨k a o nw (x.keep a o e nw na).1, (x.keep a o e nw na).2⟩
  grow := x.grow
  new := x.new
  more := fun a o e => by
    by_cases hq : a ∈ wr
    · exact l a hq
    · let ⟨o', e'⟩ := x.more a o e; exact ⟨o', k a o' hq e'⟩

structure Raw (Γ : Gl) (A : Around) (tgt : Expr) (I : Addr) (fp wr : List Addr) (ds : List D) (inv : Nat → Heap → Prop) (g0 : GM) : Prop where
  sub : ∀ b ∈ wr, b ∈ fp
  frame : ∀ i h h', inv i h → (∀ b ∈ fp, ∀ o, h.get? b = some o → h'.get? b = some o) → inv i h'
  live : ∀ i h, inv i h → ∀ b ∈ fp, ∃ o, h.get? b = some o
  fz : ∀ b ∈ fp, b ∈ wr ∨ ∃ o, g0 b = some o
  item : ∀ i d (g : GM) (s : Shared) (Q : Value → Shared → Prop) (E : Value → Shared → Prop), ds[i]? = some d → inv i s.heap → g0.le g → (∀ a o, g a = some o → s.heap.get? a = some o) →
    (∀ v h' tk, (∀ b o, b ∉ wr → s.heap.get? b = some o → h'.get? b = some o) → inv (i + 1) h' →
      (At g v d ∨ ∃ T vs m l, v = .ref T ∧ d = .tup l ∧ s.heap.get? T = none ∧ h'.get? T = some (tupObj vs m) ∧ AtL g vs l) → Q v { s with heap := h', toks := tk }) →
    wpAny (model Γ.prog Γ.w) A (pyNext (.ref I)) (fun r s₁ => match r with | none => False | some v => wpAny (model Γ.prog Γ.w) A (letOwnedTupleGo tgt (.ref I) v) (fun _ s₂ => Q v s₂) E s₁) E s
  done : ∀ (s : Shared) (Q : Option Value → Shared → Prop) (E : Value → Shared → Prop), inv ds.length s.heap →
    (∀ h' tk, (∀ b o, b ∉ wr → s.heap.get? b = some o → h'.get? b = some o) → Q none { s with heap := h', toks := tk }) → wpAny (model Γ.prog Γ.w) A (pyNext (.ref I)) Q E s
  self : ∀ i (s : Shared) (Q : Value → Shared → Prop) (E : Value → Shared → Prop), inv i s.heap → Q (.ref I) s → wpAny (model Γ.prog Γ.w) A (pyIter (.ref I)) Q E s

theorem Raw.turn {A : Around} {tgt : Expr} {I : Addr} {fp wr : List Addr} {ds : List D} {inv : Nat → Heap → Prop} {g0 g : GM} (W : Raw Γ A tgt I fp wr ds inv g0) {i : Nat} {d : D} {P : List Addr} {env : Env} {s : Shared} {E : Value → Shared → Prop}
    (R : Room A k) (hi : ds[i]? = some d) (hinv : inv i s.heap) (S : St Γ sc σ P g env s.heap) (le : g0.le g) (hP : ∀ b ∈ wr, b ∉ P) (hg : ∀ b ∈ wr, g b = none) (hT : AsgD Γ sc k tgt σ d σ1) {K : Shared → Prop}
    (hK : ∀ P' g' h' tk, StepW wr P P' g g' s.heap h' → inv (i + 1) h' → St Γ sc σ1 P' g' env h' → (∀ b ∈ wr, b ∉ P') → (∀ b ∈ wr, g' b = none) → K { s with heap := h', toks := tk })
    {Qr : Option Value → Shared → Prop} (hQr : ∀ v s₁, wpAny (model Γ.prog Γ.w) A (letOwnedTupleGo tgt (.ref I) v) (fun _ s₂ => wpAny (model Γ.prog Γ.w) A (assign tgt env v) (fun _ s₃ => K s₃) E s₂) E s₁ → Qr (some v) s₁) :
    wpAny (model Γ.prog Γ.w) A (pyNext (.ref I)) Qr E s := by
  refine wpAny_mono (Q := fun r s₁ => match r with | none => False | some v => wpAny (model Γ.prog Γ.w) A (letOwnedTupleGo tgt (.ref I) v) (fun _ s₂ => wpAny (model Γ.prog Γ.w) A (assign tgt env v) (fun _ s₃ => K s₃) E s₂) E s₁) ?_ (fun r s₁ h => by cases r with | none => exact h.elim | some v => exact hQr v s₁ h) fun _ _ e => e
  refine W.item i d g s (fun v s₂ => wpAny (model Γ.prog Γ.w) A (assign tgt env v) (fun _ s₃ => K s₃) E s₂) E hi hinv le S.stay fun v h' tk hk hinv' hv => ?_
  have S1 := S.but hP hg hk
  have live0 := W.live i _ hinv
  have fin : ∀ g1, g.le g1 → St Γ sc σ P g1 env h' → (∀ a o, g1 a = some o → g a = some o ∨ s.heap.get? a = none) → At g1 v d → wpAny (model Γ.prog Γ.w) A (assign tgt env v) (fun _ s₃ => K s₃) E { s with heap := h', toks := tk } := by
    intro g1 le1 S2 new1 hv1
    refine wpAny_mono (hT v A env P g1 { s with heap := h', toks := tk } (fun _ s₃ => K s₃) R S2 hv1 fun _ P3 g3 h3 t3 st3 S3 _ => ?_) (fun _ _ q => q) fun _ _ e => e.elim
    have st3 : Step P P3 g1 g3 h' h3 := st3
    have offwr : ∀ b ∈ wr, b ∉ P3 ∧ g3 b = none := by
      intro b hb
      obtain ⟨o, eo⟩ := W.live (i + 1) _ hinv' b (W.sub b hb)
      refine ⟨(st3.keep b o eo (hP b hb)).2, ?_⟩
      cases q : g3 b with
      | none => rfl
      | some z =>
        rcases st3.new b z q with h1 | h1 | h1
        · rcases new1 b z h1 with h2 | h2
          · rw [hg b hb] at h2; cases h2
          · obtain ⟨o0, e0⟩ := live0 b (W.sub b hb)
            rw [h2] at e0; cases e0
        · exact absurd h1 (hP b hb)
        · rw [eo] at h1; cases h1
    refine hK P3 g3 h3 t3 ⟨fun b o e nw np => st3.keep b o (hk b o nw e) np, le1.trans st3.grow, fun a o e => ?_, fun a o e => ?_⟩ ?_ S3 (fun b hb => (offwr b hb).1) (fun b hb => (offwr b hb).2)
    · rcases st3.new a o e with h1 | h1 | h1
      · rcases new1 a o h1 with h2 | h2
        · exact .inl h2
        · exact .inr (.inr h2)
      · exact .inr (.inl h1)
      · refine .inr (.inr ?_)
        have h1 : h'.get? a = none := h1
        cases q : s.heap.get? a with
        | none => rfl
        | some z =>
          by_cases hw : a ∈ wr
          · obtain ⟨z', e'⟩ := W.live (i + 1) _ hinv' a (W.sub a hw)
            rw [h1] at e'; cases e'
          · rw [hk a z hw q] at h1; cases h1
    · by_cases hw : a ∈ wr
      · obtain ⟨z', e'⟩ := W.live (i + 1) _ hinv' a (W.sub a hw)
        exact st3.more a z' e'
      · exact st3.more a o (hk a o hw e)
    · refine W.frame _ _ _ hinv' fun b hb o e => ?_
      have : b ∉ P := by
        rcases W.fz b hb with h1 | ⟨z, h1⟩
        · exact hP b h1
        · intro hp
          have := S.off b hp
          rw [le _ _ h1] at this; cases this
      exact (st3.keep b o e this).1
  rcases hv with hv | ⟨T, vs, m, l, rfl, rfl, hT0, hT1, hvs⟩
  · exact fin g GM.le.rfl' S1 (fun _ _ e => .inl e) hv
  · have hTP : T ∉ P := fun q => by obtain ⟨o, e⟩ := S.inn T q; rw [hT0] at e; cases e
    obtain ⟨S2, le2⟩ := S1.freeze hT1 hTP
    refine fin _ le2 S2 (fun a o e => ?_) (mk_tup (n := m) (by unfold GM.ins; rw [if_pos rfl]) (hvs.mono le2))
    unfold GM.ins at e
    by_cases q : a = T
    · rw [q]; exact .inr hT0
    · rw [if_neg q] at e; exact .inl e

noncomputable def EvI (Γ : Gl) (sc : Scope) (k : Nat) (iter tgt : Expr) (σ : Ctx) (ds : List D) (σ' : Ctx) : Prop :=
  ∀ (A : Around) (env : Env) (P : List Addr) (g : GM) (s : Shared) (Q : Value → Shared → Prop), Room A k → St Γ sc σ P g env s.heap →
    (∀ P' g' h' tk I fp wr inv, Step P P' g g' s.heap h' → St Γ sc σ' P' g' env h' → Raw Γ A tgt I fp wr ds inv g' → inv 0 h' → (∀ b ∈ wr, s.heap.get? b = none) → (∀ b ∈ wr, b ∉ P') → (∀ b ∈ wr, g' b = none) → Q (.ref I) { s with heap := h', toks := tk }) →
    wpAny (model Γ.prog Γ.w) A (eval iter env) (fun x s₁ => wpAny (model Γ.prog Γ.w) A (pyIter x) Q noE s₁) noE s

theorem notE {prog : Program} {w : World} {A : Around} {E : Value → Shared → Prop} {α : Type} {m : Sem α} {Q : α → Shared → Prop} {s : Shared} (h : wpAny (model prog w) A m Q noE s) : wpAny (model prog w) A m Q E s :=
  wpAny_mono h (fun _ _ q => q) fun _ _ e => e.elim

inductive ForI (Γ : Gl) (sc : Scope) (J : Nat → Ctx → Prop) (inv : Nat → Heap → Prop) (env : Env) (P : List Addr) (g : GM) (s : Shared) (g1 : GM) (wr : List Addr) (n : Nat) : Nat → Shared → Prop
  | mk (i : Nat) (σ2 : Ctx) (P2 : List Addr) (g2 : GM) (h2 : Heap) (t2 : Nat) (hi : i ≤ n) (hJ : J i σ2) (hinv : inv i h2) (S2 : St Γ sc σ2 P2 g2 env h2) (st2 : Step P P2 g g2 s.heap h2) (le2 : g1.le g2) (hP2 : ∀ b ∈ wr, b ∉ P2) (hg2 : ∀ b ∈ wr, g2 b = none) :
    ForI Γ sc J inv env P g s g1 wr n (n + 1 - i) { s with heap := h2, toks := t2 }
theorem Ex1.for {tgt iter : Expr} {body : List Stmt} {pos : Pos} {ds : List D} (J : Nat → Ctx → Prop) (h1 : EvI Γ sc k iter tgt σ ds σ1) (h0 : J 0 σ1)
    (turn : ∀ i d σ2, ds[i]? = some d → J i σ2 → ∃ σ3, AsgD Γ sc k tgt σ2 d σ3 ∧ ExS Γ sc k body σ3 (.next (J (i + 1))))
    (hs : ∀ env x, foldedSetIterable iter env x = pure x := by intro _ _; with_unfolding_all rfl) : Ex1 Γ sc k (.For tgt iter body [] pos) σ (.next (J ds.length)) := by
  intro A env P g s Q R S q
  refine wpAny_For (wpAny_mono (h1 A env P g s _ R S fun P1 g1 h1' t1 I fp wr inv st1 S1 W inv0 fr hP hg => ?_) (fun x s₁ h => h) fun _ _ e => e) (hs env)
  have inv0 : inv 0 h1' := inv0
  refine codeAny_forLoop_any (R := fun r s' => match r with | .ok f => Q f s' | .error e => cameBackBy (model Γ.prog Γ.w) A env noE e s')
    (ForI Γ sc J inv env P g s g1 wr ds.length)
    ?_ (ds.length + 1) ⟨0, σ1, P1, g1, h1', t1, Nat.zero_le _, h0, inv0, S1, st1, GM.le.rfl', hP, hg⟩
  rintro _ _ ⟨i, σ2, P2, g2, h2, t2, hi, hJ, hinv, S2, st2, le2, hP2, hg2⟩
  by_cases hlt : i < ds.length
  · have hd : ds[i]? = some ds[i] := List.getElem?_eq_getElem hlt
    obtain ⟨σ3, hA, hB⟩ := turn i _ σ2 hd hJ
    refine W.turn R hd hinv S2 le2 hP2 hg2 hA (fun P3 g3 h3 t3 tr inv3 S3 hP3 hg3 => ?_) (fun v s₁ h => h)
    refine notE (hB A env P3 g3 _ _ R S3 fun σ4 P4 g4 h4 t4 hJ4 st4 S4 => ?_)
    have st4 : Step P3 P4 g3 g4 h3 h4 := st4
    have st3 := tr.app st2 fr
    have le3 := tr.grow
    have ex : ∀ b ∈ fp, ∃ o, h3.get? b = some o := W.live _ _ inv3
    have npf : ∀ b ∈ fp, b ∉ P3 := fun b hb => by
      rcases W.fz b hb with h1 | ⟨z, h1⟩
      · exact hP3 b h1
      · intro hp
        have := S3.off b hp
        rw [le3 _ _ (le2 _ _ h1)] at this; cases this
    refine ⟨ds.length + 1 - (i + 1), by omega, i + 1, σ4, P4, g4, h4, t4, hlt, hJ4, W.frame _ _ _ inv3 fun b hb o e => (st4.keep b o e (npf b hb)).1, S4, st3.trans st4, (le2.trans le3).trans st4.grow, fun b hb => ?_, fun b hb => ?_⟩
    · obtain ⟨o, e⟩ := ex b (W.sub b hb)
      exact (st4.keep b o e (hP3 b hb)).2
    · cases q4 : g4 b with
      | none => rfl
      | some z =>
        obtain ⟨o, e⟩ := ex b (W.sub b hb)
        rcases st4.new b z q4 with h1 | h1 | h1
        · rw [hg3 b hb] at h1; cases h1
        · exact absurd h1 (hP3 b hb)
        · rw [e] at h1; cases h1
  · have hin : i = ds.length := by omega
    subst hin
    refine W.done _ _ _ hinv fun h3 t3 hk => wpAny_execs_nil ?_
    exact q σ2 P2 g2 h3 t3 hJ (st2.but fr hk) (S2.but hP2 hg2 hk)
end Mine
end

section
open PySem PySem.W PyProof.Rows PySem.Calls
set_option maxRecDepth 100000
namespace Mine
variable {Γ : Gl} {sc : Scope} {k : Nat} {σ σ1 σ2 σ3 : Ctx}

noncomputable def relabS (scope sc : Scope) : Scope :=
  { scope with names := scope.names.map fun (n, k) => if (k == .free && sc.kind == .function && sc.names.lookup n == some .cell) then (n, .cell) else (n, k) }
theorem relab_eq {scope : Scope} {env : Env} : relabel scope env = relabS scope env.scope := rfl

noncomputable def clOf (cells : List (Str × Addr)) : List (Str × NameKind) → List (Str × Addr) → List (Str × Addr)
  | [], acc => acc
  | (x, kd) :: r, acc => if kd == .free then clOf cells r ((x, (cells.lookup x).getD 0) :: acc) else clOf cells r acc
theorem closure_go (env : Env) : ∀ (names : List (Str × NameKind)) (acc : List (Str × Addr)), (∀ x ∈ names, x.2 = .free → ∃ c, env.cells.lookup x.1 = some c) →
    (forIn names acc fun (x : Str × NameKind) (cs : List (Str × Addr)) => (match x with | (name, kind) => (if (kind == NameKind.free) = true then (do let a ← cellOf env name; pure (ForInStep.yield ((name, a) :: cs))) else pure (ForInStep.yield cs)) : Sem (ForInStep (List (Str × Addr))))) = pure (clOf env.cells names acc)
  | [], acc, _ => rfl
  | (x, kd) :: r, acc, h => by
    rw [List.forIn_cons]
    have ih := closure_go env r
    unfold clOf
    by_cases hk : kd = .free
    · subst hk
      obtain ⟨c, hc⟩ := h _ (.head _) rfl
      have e : cellOf env x = pure c := by unfold cellOf; simp only at hc; rw [hc]
      simp only [beq_self_eq_true, if_true, e, hc, Option.getD_some, pure_bind]
      exact ih _ fun y hy => h y (.tail _ hy)
    · have : (kd == NameKind.free) = false := by simpa using hk
      simp only [this, Bool.false_eq_true, if_false, pure_bind]
      exact ih _ fun y hy => h y (.tail _ hy)
theorem closure_eq {scope : Scope} {env : Env} (h : ∀ x ∈ scope.names, x.2 = .free → ∃ c, env.cells.lookup x.1 = some c) : closureFor scope env = pure (clOf env.cells scope.names []) := by
  unfold closureFor
  have := closure_go env scope.names [] h
  simp only [bind_pure] at this ⊢
  exact this

theorem clOf_mem (cells : List (Str × Addr)) : ∀ (names : List (Str × NameKind)) (acc : List (Str × Addr)) (p : Str × Addr), p ∈ clOf cells names acc → p ∈ acc ∨ ((p.1, NameKind.free) ∈ names ∧ p.2 = (cells.lookup p.1).getD 0)
  | [], acc, p, h => .inl h
  | (x, kd) :: r, acc, p, h => by
    unfold clOf at h
    split at h
    · rename_i hk
      rcases clOf_mem cells r _ p h with h1 | ⟨h1, h2⟩
      · rcases List.mem_cons.mp h1 with rfl | h1
        · exact .inr ⟨by rw [beq_iff_eq.mp hk]; exact .head _, rfl⟩
        · exact .inl h1
      · exact .inr ⟨.tail _ h1, h2⟩
    · rcases clOf_mem cells r _ p h with h1 | ⟨h1, h2⟩
      · exact .inl h1
      · exact .inr ⟨.tail _ h1, h2⟩
theorem clOf_acc (cells : List (Str × Addr)) : ∀ (names : List (Str × NameKind)) (acc : List (Str × Addr)) (p : Str × Addr), p ∈ acc → p ∈ clOf cells names acc
  | [], acc, p, h => h
  | (x, kd) :: r, acc, p, h => by
    unfold clOf
    split
    · exact clOf_acc cells r _ p (.tail _ h)
    · exact clOf_acc cells r _ p h
theorem clOf_has (cells : List (Str × Addr)) : ∀ (names : List (Str × NameKind)) (acc : List (Str × Addr)) (x : Str), (x, NameKind.free) ∈ names → (x, (cells.lookup x).getD 0) ∈ clOf cells names acc
  | (y, kd) :: r, acc, x, h => by
    unfold clOf
    rcases List.mem_cons.mp h with e | h
    · cases e
      rw [if_pos (by rfl)]
      exact clOf_acc cells r _ _ (.head _)
    · split
      · exact clOf_has cells r _ x h
      · exact clOf_has cells r _ x h
theorem clOf_nodup (cells : List (Str × Addr)) : ∀ (names : List (Str × NameKind)) (acc : List (Str × Addr)), (names.map (·.1)).Nodup → (acc.map (·.1)).Nodup → (∀ x ∈ names.map (·.1), x ∉ acc.map (·.1)) → ((clOf cells names acc).map (·.1)).Nodup
  | [], acc, _, N, _ => N
  | (x, kd) :: r, acc, h1, N, h2 => by
    rw [List.map_cons] at h1 h2
    have h1' := List.nodup_cons.mp h1
    unfold clOf
    split
    · refine clOf_nodup cells r _ h1'.2 (List.nodup_cons.mpr ⟨h2 x (.head _), N⟩) fun y hy => ?_
      rw [List.map_cons, List.mem_cons, not_or]
      exact ⟨fun e => h1'.1 (e ▸ hy), h2 y (.tail _ hy)⟩
    · exact clOf_nodup cells r _ h1'.2 N fun y hy => h2 y (.tail _ hy)

noncomputable def compOk (scope sc : Scope) : Bool :=
  scope.names.all (fun x => (x.2 != .free || sc.names.lookup x.1 == some .cell) && x.2 != .cell && (x.2 != .local || scope.names.lookup x.1 == some .local)) && decide ((scope.names.map (·.1)).Nodup) && scope.kind == .function && sc.kind == .function
structure CompOk (scope sc : Scope) : Prop where
  free : ∀ x ∈ scope.names, x.2 = .free → sc.names.lookup x.1 = some .cell
  cell : ∀ x ∈ scope.names, x.2 ≠ .cell
  loc : ∀ x ∈ scope.names, x.2 = .local → scope.names.lookup x.1 = some .local
  nodup : (scope.names.map (·.1)).Nodup
  kind : scope.kind = .function
  kind' : sc.kind = .function
theorem CompOk.of {scope sc : Scope} (h : compOk scope sc = true) : CompOk scope sc := by
  unfold compOk at h
  simp only [Bool.and_eq_true, List.all_eq_true, Bool.or_eq_true, bne_iff_ne, ne_eq, beq_iff_eq, decide_eq_true_eq] at h
  obtain ⟨⟨⟨h1, h2⟩, h3⟩, h4⟩ := h
  refine ⟨fun x hx e => ?_, fun x hx => (h1 x hx).1.2, fun x hx e => ?_, h2, h3, h4⟩
  · rcases (h1 x hx).1.1 with h | h
    · exact absurd e h
    · exact h
  · rcases (h1 x hx).2 with h | h
    · exact absurd e h
    · exact h

structure Inner (scope : Scope) (σ σc : Ctx) : Prop where
  out : ∀ y av, σc.lookup y = some av → σ.lookup y = some av ∧ scope.names.lookup y = some .free ∧ ∃ d, av = .d d
  inn : ∀ y av, σ.lookup y = some av → scope.names.lookup y = some .free → σc.lookup y = some av

section
variable {scope : Scope} {env : Env} {P1 : List Addr} {g1 : GM} {h2 h4 : Heap} {σc : Ctx} {C : Addr}

theorem cl_lookup (S : St Γ sc σ1 P1 g1 env h2) (ok : CompOk scope sc) {x : Str} (hx : (x, NameKind.free) ∈ scope.names) : (clOf env.cells scope.names []).lookup x = env.cells.lookup x ∧ ∃ c v, env.cells.lookup x = some c ∧ h2.IsCell c v := by
  obtain ⟨m, os, B⟩ := S.body
  obtain ⟨c, v, h1, h2⟩ := B.cells x (ok.free _ hx rfl)
  refine ⟨?_, c, v, h1, h2⟩
  rw [h1]
  refine lookup_of_mem (clOf_nodup _ _ _ ok.nodup .nil fun _ _ h => nomatch h) ?_
  have := clOf_has env.cells scope.names [] x hx
  rw [h1] at this
  exact this
theorem cl_in (S : St Γ sc σ1 P1 g1 env h2) (ok : CompOk scope sc) {p : Str × Addr} (hp : p ∈ clOf env.cells scope.names []) : (p.1, NameKind.free) ∈ scope.names ∧ env.cells.lookup p.1 = some p.2 := by
  rcases clOf_mem _ _ _ p hp with h | ⟨h, e⟩
  · cases h
  · refine ⟨h, ?_⟩
    obtain ⟨_, c, v, h1, _⟩ := cl_lookup S ok h
    rw [h1] at e ⊢
    rw [e]; rfl
theorem relab_lookup (ok : CompOk scope sc) {x : Str} : (relabS scope sc).names.lookup x = if scope.names.lookup x = some .free then some .cell else scope.names.lookup x := by
  have key : ∀ l : List (Str × NameKind), (∀ x ∈ l, x.2 = .free → sc.names.lookup x.1 = some .cell) → (l.map fun (n, k) => if (k == NameKind.free && sc.kind == .function && sc.names.lookup n == some .cell) then (n, NameKind.cell) else (n, k)).lookup x = if l.lookup x = some .free then some .cell else l.lookup x := by
    intro l
    induction l with
    | nil => intro _; rfl
    | cons p r ih =>
      obtain ⟨n, kd⟩ := p
      intro hl
      have ih := ih fun y hy => hl y (.tail _ hy)
      show List.lookup x ((if (kd == NameKind.free && sc.kind == .function && sc.names.lookup n == some .cell) = true then (n, NameKind.cell) else (n, kd)) :: _) = _
      by_cases hk : kd = .free
      · subst hk
        have := hl _ (.head _) rfl
        rw [if_pos (by simp only at this; rw [this, ok.kind']; rfl)]
        by_cases hx : x = n
        · subst hx; simp
        · have hb : (x == n) = false := beq_eq_false_iff_ne.mpr hx
          have e1 : ∀ (a : NameKind) (l : List (Str × NameKind)), List.lookup x ((n, a) :: l) = List.lookup x l := fun a l => by rw [List.lookup_cons, hb]
          rw [e1, e1]; exact ih
      · rw [if_neg (by simp [hk])]
        by_cases hx : x = n
        · subst hx; simp [hk]
        · have hb : (x == n) = false := beq_eq_false_iff_ne.mpr hx
          have e1 : ∀ (a : NameKind) (l : List (Str × NameKind)), List.lookup x ((n, a) :: l) = List.lookup x l := fun a l => by rw [List.lookup_cons, hb]
          rw [e1, e1]; exact ih
  exact key _ ok.free
theorem lookup_of_free (ok : CompOk scope sc) {x : Str} (h : (x, NameKind.free) ∈ scope.names) : scope.names.lookup x = some .free := lookup_of_mem ok.nodup h

theorem comp_nodup (S : St Γ sc σ1 P1 g1 env h2) (ok : CompOk scope sc) (hC : h2.get? C = none) : (C :: ((clOf env.cells scope.names []).map (·.2) ++ ([] : List (Str × Addr)).map (·.2))).Nodup := by
  obtain ⟨m, os, B⟩ := S.body
  simp only [List.map_nil, List.append_nil]
  refine List.nodup_cons.mpr ⟨fun h => ?_, ?_⟩
  · obtain ⟨p, hp, rfl⟩ := List.mem_map.mp h
    obtain ⟨h1, h2'⟩ := cl_in S ok hp
    obtain ⟨_, c, v, e, o, ho, _⟩ := cl_lookup S ok h1
    rw [h2'] at e; cases e
    rw [hC] at ho; cases ho
  · have N := clOf_nodup env.cells scope.names [] ok.nodup .nil fun _ _ h => nomatch h
    refine List.pairwise_map.mpr ((List.pairwise_map.mp N).imp_of_mem fun {a b} ha hb hne e => ?_)
    obtain ⟨_, e1⟩ := cl_in S ok ha
    obtain ⟨_, e2⟩ := cl_in S ok hb
    exact hne (nodup_lookup (B.cells_nodup S.apart) e1 (e ▸ e2))
theorem comp_mem (S : St Γ sc σ1 P1 g1 env h2) (ok : CompOk scope sc) {a : Addr} (h : a ∈ C :: ((clOf env.cells scope.names []).map (·.2) ++ ([] : List (Str × Addr)).map (·.2))) : a = C ∨ ∃ x, (x, NameKind.free) ∈ scope.names ∧ env.cells.lookup x = some a ∧ (x, a) ∈ clOf env.cells scope.names [] := by
  simp only [List.map_nil, List.append_nil, List.mem_cons] at h
  rcases h with h | h
  · exact .inl h
  · obtain ⟨p, hp, rfl⟩ := List.mem_map.mp h
    obtain ⟨h1, h2'⟩ := cl_in S ok hp
    exact .inr ⟨p.1, h1, h2', hp⟩

theorem St.into (S : St Γ sc σ1 P1 g1 env h2) (ok : CompOk scope sc) (hC : h2.get? C = none) (k4 : ∀ a o, h2.get? a = some o → h4.get? a = some o) (nsC : h4.Ns C fun _ => none) (hi : Inner scope σ1 σc) :
    St Γ (relabS scope sc) σc (C :: ((clOf env.cells scope.names []).map (·.2) ++ ([] : List (Str × Addr)).map (·.2))) g1 (compEnvC scope (clOf env.cells scope.names []) C env) h4 := by
  obtain ⟨m, os, B⟩ := S.body
  refine { scope := by show relabS scope env.scope = _; rw [S.scope], kind := ok.kind, globals := S.globals, builtins := S.builtins, ok := S.ok, base := S.base, stay := fun a o e => k4 a o (S.stay a o e), off := fun p hp => ?_, inn := fun p hp => ?_, apart := comp_nodup S ok hC, body := ⟨fun _ => none, [], ⟨nsC, rfl, fun x hx => ?_, fun x av hx => ?_⟩⟩ }
  · rcases comp_mem S ok hp with rfl | ⟨x, h1, h2', _⟩
    · cases q : g1 p with
      | none => rfl
      | some z => have := S.stay p z q; rw [hC] at this; cases this
    · exact S.off p (B.cell_mem h2')
  · rcases comp_mem S ok hp with rfl | ⟨x, h1, h2', _⟩
    · exact ns_there nsC
    · obtain ⟨o, e⟩ := S.inn p (B.cell_mem h2'); exact ⟨o, k4 p o e⟩
  · rw [relab_lookup ok] at hx
    split at hx
    · rename_i hf
      obtain ⟨e1, c, v, e2, e3⟩ := cl_lookup S ok (mem_of_lookup' hf)
      exact ⟨c, v, e1.trans e2, e3.keeps k4⟩
    · exact absurd rfl (ok.cell _ (mem_of_lookup' hx))
  · obtain ⟨h1, hf, d, rfl⟩ := hi.out x av hx
    obtain ⟨v, l, r⟩ := B.names x _ h1
    refine ⟨v, .inr ⟨by rw [relab_lookup ok, if_pos hf], ?_⟩, r⟩
    obtain ⟨e1, c, v', e2, e3⟩ := cl_lookup S ok (mem_of_lookup' hf)
    have hsc := ok.free _ (mem_of_lookup' hf) rfl
    rcases l with ⟨l, _⟩ | ⟨_, c', hc', hv'⟩
    · rw [hsc] at l; cases l
    · exact ⟨c', e1.trans hc', hv'.keeps k4⟩

theorem St.back {P2 : List Addr} {g2 : GM} {h' : Heap} (S : St Γ sc σ1 P1 g1 env h2) (ok : CompOk scope sc) (hC : h2.get? C = none) (k4 : ∀ a o, h2.get? a = some o → h4.get? a = some o) (hi : Inner scope σ1 σc)
    (Si : St Γ (relabS scope sc) σc P2 g2 (compEnvC scope (clOf env.cells scope.names []) C env) h')
    {wr : List Addr} (hwP : ∀ b ∈ wr, b ∉ P1) (st : StepW wr (C :: ((clOf env.cells scope.names []).map (·.2) ++ ([] : List (Str × Addr)).map (·.2))) P2 g1 g2 h4 h') :
    St Γ sc σ1 P1 g2 env h' ∧ StepW wr P1 P1 g1 g2 h2 h' := by
  obtain ⟨m, os, B⟩ := S.body
  obtain ⟨mi, osi, Bi⟩ := Si.body
  have new : ∀ a o, g2 a = some o → g1 a = some o ∨ h2.get? a = none := by
    intro a o e
    rcases st.new a o e with h1 | h1 | h1
    · exact .inl h1
    · rcases comp_mem S ok h1 with rfl | ⟨x, _, _, h3⟩
      · exact .inr hC
      · have : a ∈ P2 := by rw [Bi.prot]; exact .tail _ (List.mem_append_left _ (List.mem_map_of_mem (f := Prod.snd) h3))
        rw [Si.off a this] at e; cases e
    · refine .inr ?_
      cases q : h2.get? a with
      | none => rfl
      | some z => rw [k4 a z q] at h1; cases h1
  have keep : ∀ a o, h2.get? a = some o → a ∉ wr → (∀ x, (x, NameKind.free) ∈ scope.names → env.cells.lookup x ≠ some a) → h'.get? a = some o := by
    intro a o e hw hn
    refine (st.keep a o (k4 a o e) hw fun h => ?_).1
    rcases comp_mem S ok h with rfl | ⟨x, h1, h3, _⟩
    · rw [hC] at e; cases e
    · exact hn x h1 h3
  refine ⟨{ S with base := fun a o e => st.grow _ _ (S.base a o e), stay := Si.stay, off := fun p hp => ?_, inn := fun p hp => ?_, body := ⟨m, os, ⟨?_, B.prot, fun x hx => ?_, fun x av hx => ?_⟩⟩ }, ⟨fun a o e hw n => ⟨keep a o e hw fun x _ hc => n (B.cell_mem hc), n⟩, st.grow, fun a o e => ?_, fun a o e => st.more a o (k4 a o e)⟩⟩
  · cases q : g2 p with
    | none => rfl
    | some z =>
      rcases new p z q with h | h
      · rw [S.off p hp] at h; cases h
      · obtain ⟨o, e⟩ := S.inn p hp; rw [h] at e; cases e
  · obtain ⟨o, e⟩ := S.inn p hp
    exact st.more p o (k4 p o e)
  · exact B.ns.at' fun o e => keep _ o e (fun q => hwP _ q S.locals_mem) fun x _ hc => B.cell_ne S.apart hc rfl
  · obtain ⟨c, v, h1, h3⟩ := B.cells x hx
    by_cases hf : (x, NameKind.free) ∈ scope.names
    · obtain ⟨e1, _⟩ := cl_lookup S ok hf
      obtain ⟨c', v', h5, h6⟩ := Bi.cells x (by rw [relab_lookup ok, if_pos (lookup_of_free ok hf)])
      have h5 : (clOf env.cells scope.names []).lookup x = some c' := h5
      rw [e1, h1] at h5; cases h5
      exact ⟨c, v', h1, h6⟩
    · obtain ⟨o, ho, hd⟩ := h3
      refine ⟨c, v, h1, o, keep c o ho (fun q => hwP _ q (B.cell_mem h1)) fun y hy hc => ?_, hd⟩
      exact hf ((nodup_lookup (B.cells_nodup S.apart) h1 hc) ▸ hy)
  · obtain ⟨v, l, r⟩ := B.names x av hx
    have own : ∀ b, os.lookup x = some b → ∀ o, h2.get? b = some o → h'.get? b = some o := fun b hb o e => keep b o e (fun q => hwP _ q (B.own_mem hb)) fun y _ hc => B.own_cell S.apart hb hc rfl
    rcases l with ⟨l, e⟩ | ⟨l, c, hc, hv⟩
    · exact ⟨v, .inl ⟨l, e⟩, r.kept st.grow own⟩
    · by_cases hf : (x, NameKind.free) ∈ scope.names
      · have hx' := hi.inn x av hx (lookup_of_free ok hf)
        obtain ⟨_, _, d, rfl⟩ := hi.out x av hx'
        obtain ⟨v', l', r'⟩ := Bi.names x _ hx'
        refine ⟨v', .inr ⟨l, c, hc, ?_⟩, r'⟩
        rcases l' with ⟨l', _⟩ | ⟨_, c', hc', hv'⟩
        · rw [relab_lookup ok, if_pos (lookup_of_free ok hf)] at l'; cases l'
        · obtain ⟨e1, _⟩ := cl_lookup S ok hf
          have hc' : (clOf env.cells scope.names []).lookup x = some c' := hc'
          rw [e1, hc] at hc'; cases hc'
          exact hv'
      · obtain ⟨o, ho, hd⟩ := hv
        exact ⟨v, .inr ⟨l, c, hc, o, keep c o ho (fun q => hwP _ q (B.cell_mem hc)) fun y hy hc' => hf ((nodup_lookup (B.cells_nodup S.apart) hc hc') ▸ hy), hd⟩, r.kept st.grow own⟩
  · rcases new a o e with h | h
    · exact .inl h
    · exact .inr (.inr h)
end
end Mine
end

section
open PySem PySem.W PyProof.Rows PySem.Calls
set_option maxRecDepth 100000
namespace Mine
variable {Γ : Gl} {sc : Scope} {k : Nat} {σ σ1 σ2 σ3 : Ctx}

noncomputable abbrev testTree (ifs : List Expr) (env : Env) : Sem Bool :=
  forIn ifs true fun c r => if r = true then do let ok ← isTrue c env (eval c env); pure (ForInStep.yield ok) else pure (ForInStep.yield r)

theorem codeAny_compLoop_any {prog : Program} {w : World} {A : Around} {R : Result → Shared → Prop} {s : Shared} {elt target iter : Expr} {ifs : List Expr} {scope : Scope} {pos : Pos} {it acc : Value} {env : Env} (I : Nat → Shared → Prop)
    (turn : ∀ n s, I n s → wpAny (model prog w) A (pyNext it) (fun r s₁ => match r with
      | none => R (.ok .next) s₁
      | some v => wpAny (model prog w) A (letOwnedTupleGo target it v) (fun _ s₁' => wpAny (model prog w) A (assign target env v) (fun _ s₂ =>
          wpAny (model prog w) A (testTree ifs env) (fun ok s₃ =>
            if ok = true then wpAny (model prog w) A (eval elt env) (fun x s₄ =>
              wpAny (model prog w) A (call (.builtin "list.append") [acc, x]) (fun _ s₅ => ∃ m, m < n ∧ I m s₅) (notedBy (model prog w) A env fun e s' => R (.error e) s') s₄) (notedBy (model prog w) A env fun e s' => R (.error e) s') s₃
            else ∃ m, m < n ∧ I m s₃) (notedBy (model prog w) A env fun e s' => R (.error e) s') s₂) (notedBy (model prog w) A env fun e s' => R (.error e) s') s₁') (notedBy (model prog w) A env fun e s' => R (.error e) s') s₁) (notedBy (model prog w) A env fun e s' => R (.error e) s') s)
    (n : Nat) (h : I n s) : codeAny (model prog w) A (.compLoop (.ListComp elt [⟨target, iter, ifs, 0⟩] scope pos) 0 it acc env) R s := by
  refine codeAny_loop rfl I (fun n s hI => ?_) n h
  show wpAny _ A ((compTurn (.ListComp elt [⟨target, iter, ifs, 0⟩] scope pos) 0 it acc env).onRaise (fun x => do noteFrame x env; theTreesLotGoes x)) _ _ s
  refine wpAny_noted ?_
  rw [compTurn_list]
  refine wpAny_bind (wpAny_standAt (wpAny_bind (wpAny_mono (turn n s hI) (fun r s₁ h₁ => ?_) fun _ _ h' => h')))
  cases r with
  | none => exact wpAny_pure h₁
  | some v =>
    refine wpAny_bind (wpAny_mono h₁ (fun _ s₁' h₁' => ?_) fun _ _ h' => h')
    refine wpAny_bind (wpAny_mono h₁' (fun _ s₂ h₂ => wpAny_bind (wpAny_mono h₂ (fun ok s₃ h₃ => ?_) fun _ _ h' => h')) fun _ _ h' => h')
    cases ok with
    | false => exact wpAny_pure ⟨rfl, h₃⟩
    | true =>
      exact wpAny_bind (wpAny_bind (wpAny_mono h₃ (fun x s₄ h₄ => wpAny_bind (wpAny_mono h₄ (fun _ s₅ h₅ => wpAny_pure (wpAny_pure ⟨rfl, h₅⟩)) fun _ _ h' => h')) fun _ _ h' => h'))

noncomputable def Tests (Γ : Gl) (sc : Scope) (k : Nat) (ifs : List Expr) (σ : Ctx) (b : Bool) (σ' : Ctx) : Prop := Tri Γ sc k (testTree ifs) T1 σ σ' fun _ x => x = b
theorem Tests.nil : Tests Γ sc k [] σ true σ := by
  intro A env P g s Q R S _ q
  exact wpAny_tests_nil (q _ _ _ _ _ Step.refl S rfl)
theorem Tests.one {c : Expr} {b : Bool} (h : EvT Γ sc k c σ b σ1) : Tests Γ sc k [c] σ b σ1 := by
  intro A env P g s Q R S _ q
  exact wpAny_tests_one (h A env P g s _ R S trivial fun b P1 g1 h1' t1 st1 S1 a1 => q _ _ _ _ _ st1 S1 a1)

noncomputable abbrev Ctx.has (σ σc : Ctx) : Prop := ∀ y av, σc.lookup y = some av → σ.lookup y = some av
noncomputable def Elt (Γ : Gl) (sc : Scope) (k : Nat) (ifs : List Expr) (elt : Expr) (σ σc : Ctx) (o : Option D) : Prop :=
  match o with
  | none => ∃ σ4, Tests Γ sc k ifs σ false σ4 ∧ σ4.has σc
  | some d => ∃ σ4 σ5, Tests Γ sc k ifs σ true σ4 ∧ EvE Γ sc k elt σ4 d σ5 ∧ σ5.has σc

noncomputable def outsTo (out : Nat → Option D) : Nat → List D
  | 0 => []
  | i + 1 => outsTo out i ++ (out i).toList
theorem outsTo_len (out : Nat → Option D) : ∀ i, (outsTo out i).length ≤ i
  | 0 => Nat.le_refl _
  | i + 1 => by
    have := outsTo_len out i
    unfold outsTo
    rw [List.length_append]
    cases out i <;> simp <;> omega

theorem fa_nil {α : Type} {P : α → Prop} : ∀ x ∈ ([] : List α), P x := fun _ h => nomatch h
theorem fa_cons {α : Type} {P : α → Prop} {a : α} {l : List α} (h : P a) (t : ∀ x ∈ l, P x) : ∀ x ∈ a :: l, P x := List.forall_mem_cons.mpr ⟨h, t⟩
inductive CompI (Γ : Gl) (sc : Scope) (σc : Ctx) (inv : Nat → Heap → Prop) (e2 : Env) (P0 : List Addr) (g1 : GM) (s : Shared) (h₁ : Heap) (acc : Addr) (wr : List Addr) (out : Nat → Option D) (n : Nat) : Nat → Shared → Prop
  | mk (i : Nat) (P2 : List Addr) (g2 : GM) (h2 : Heap) (t2 : Nat) (ys : Array Value) (hil : i ≤ n) (hinv : inv i h2) (S2 : St Γ sc σc P2 g2 e2 h2) (st2 : StepW (acc :: wr) P0 P2 g1 g2 h₁ h2) (hP2 : ∀ b ∈ acc :: wr, b ∉ P2) (hg2 : ∀ b ∈ acc :: wr, g2 b = none)
    (hpl : h2.PlainList acc ys) (hat : AtL g2 ys.toList (outsTo out i)) : CompI Γ sc σc inv e2 P0 g1 s h₁ acc wr out n (n + 1 - i) { s with heap := h2, toks := t2 }
theorem comp_core {scope : Scope} {env : Env} {P1 : List Addr} {g1 : GM} {σc : Ctx} {A : Around} {s : Shared} {elt tgt iter : Expr} {ifs : List Expr} {pos : Pos} {I : Addr} {fp wr : List Addr} {ds : List D} {inv : Nat → Heap → Prop} {E : Value → Shared → Prop}
    (R : Room A k) (ok : CompOk scope sc) (hi : Inner scope σ1 σc) (S : St Γ sc σ1 P1 g1 env s.heap) (W : Raw Γ A tgt I fp wr ds inv g1) (inv0 : inv 0 s.heap) (hP : ∀ b ∈ wr, b ∉ P1) (hg : ∀ b ∈ wr, g1 b = none)
    (hds : ds.length ≤ 1000) (out : Nat → Option D)
    (turn : ∀ i d, ds[i]? = some d → ∃ σ3, AsgD Γ (relabS scope sc) k tgt σc d σ3 ∧ Elt Γ (relabS scope sc) k ifs elt σ3 σc (out i))
    {RR : Value → Addr → Result → Shared → Prop}
    (hRR : ∀ D C h' tk g', St Γ sc σ1 P1 g' env h' → (∀ hb P0 gb, Step P0 P1 gb g1 hb s.heap → (∀ b ∈ wr, hb.get? b = none) → Step P0 P1 gb g' hb h') → At g' (.ref D) (.list (outsTo out ds.length)) →
      C ∉ P1 → g' C = none → s.heap.get? C = none → (∃ m, h'.Ns C m) → RR (.ref D) C (.ok .next) { s with heap := h', toks := tk }) :
    wpAny (model Γ.prog Γ.w) A (newList []) (fun acc s₃ => wpAny (model Γ.prog Γ.w) A (newFunctionEnv scope env.globals (clOf env.cells scope.names []) [] env.qual none .none (some env)) (fun cenv s₄ =>
      codeAny (model Γ.prog Γ.w) A (.compStart (.ListComp elt [⟨tgt, iter, ifs, 0⟩] scope pos) 0 (.ref I) acc { cenv with scope := relabel scope env }) (RR acc cenv.locals) s₄) E s₃) E s := by
  refine wpAny_newObj_type (wpAny_newFunctionEnv ok.cell (by intro y hy; simp at hy) (fun h₁ hns₁ hsb₁ => ?_) ok.kind)
  dsimp only at hns₁ hsb₁ ⊢
  generalize hH2 : s.heap.push { cls := .type "list", dict := none, data := .seq ([] : List Value).toArray } = H2 at hns₁ hsb₁ ⊢
  have hC : H2.objs.size = s.heap.objs.size + 1 := by rw [← hH2, Heap.size_push]
  have fresh : ∀ a, s.heap.objs.size ≤ a → s.heap.get? a = none := fun a ha => by
    cases e : s.heap.get? a with
    | none => rfl
    | some o' => exact absurd (Heap.lt_size e) (Nat.not_lt.mpr ha)
  have hCn : s.heap.get? H2.objs.size = none := fresh _ (by rw [hC]; exact Nat.le_succ _)
  have hDn : s.heap.get? s.heap.objs.size = none := fresh _ (Nat.le_refl _)
  have hDC : s.heap.objs.size ≠ H2.objs.size := by rw [hC]; exact Nat.ne_of_lt (Nat.lt_succ_self _)
  have old : ∀ b o, s.heap.get? b = some o → h₁.get? b = some o := fun b o e => by
    have hb := Heap.lt_size e
    exact hsb₁.extBut b o (by rw [hC]; exact Nat.ne_of_lt (Nat.lt_succ_of_lt hb)) (Heap.get?_push_of_some _ (hH2 ▸ Heap.get?_push_of_some _ e))
  have hacc : h₁.PlainList s.heap.objs.size #[] := ⟨_, hsb₁.extBut _ _ hDC (Heap.get?_push_of_some _ (hH2 ▸ Heap.get?_push_size _ rfl))⟩
  generalize hCC : H2.objs.size = C at *
  generalize hDD : s.heap.objs.size = D at *
  have nsC : h₁.Ns C fun _ => none := by
    have := hns₁
    simpa using this
  have Si := S.into ok hCn old nsC hi
  have hDP : D ∉ (C :: ((clOf env.cells scope.names []).map (·.2) ++ ([] : List (Str × Addr)).map (·.2))) := fun h => by
    rcases comp_mem S ok h with e | ⟨x, _, h3, _⟩
    · exact hDC e
    · obtain ⟨m, os, B⟩ := S.body
      obtain ⟨o, e⟩ := S.inn D (B.cell_mem h3)
      rw [hDn] at e; cases e
  have hPi : ∀ b ∈ wr, b ∉ (C :: ((clOf env.cells scope.names []).map (·.2) ++ ([] : List (Str × Addr)).map (·.2))) := fun b hb h => by
    rcases comp_mem S ok h with e | ⟨x, _, h3, _⟩
    · obtain ⟨o, e'⟩ := W.live 0 _ inv0 b (W.sub b hb)
      rw [e, hCn] at e'; cases e'
    · obtain ⟨m, os, B⟩ := S.body
      exact hP b hb (B.cell_mem h3)
  have hgD : g1 D = none := by
    cases q : g1 D with
    | none => rfl
    | some z => have := S.stay _ z q; rw [hDn] at this; cases this
  have inv1 : inv 0 h₁ := W.frame _ _ _ inv0 fun b _ o e => old b o e
  have loop : ∀ s₃ : Shared, s₃ = { s with heap := h₁, toks := s.toks + ([] : List (Str × Value)).length } →
      codeAny (model Γ.prog Γ.w) A (.compLoop (.ListComp elt [⟨tgt, iter, ifs, 0⟩] scope pos) 0 (.ref I) (.ref D) (compEnvC scope (clOf env.cells scope.names []) C env)) (RR (.ref D) C) s₃ := by
    rintro s₃ rfl
    refine codeAny_compLoop_any
      (CompI Γ (relabS scope sc) σc inv (compEnvC scope (clOf env.cells scope.names []) C env) (C :: ((clOf env.cells scope.names []).map (·.2) ++ ([] : List (Str × Addr)).map (·.2))) g1 s h₁ D wr out ds.length)
      ?_ (ds.length + 1) ⟨0, _, g1, h₁, _, #[], Nat.zero_le _, inv1, Si, StepW.refl, fa_cons hDP hPi, fa_cons hgD hg, hacc, atL_nil⟩
    rintro _ _ ⟨i, P2, g2, h2, t2, ys, hil, hinv, S2, st2, hP2, hg2, hpl, hat⟩
    have hP2' : ∀ b ∈ wr, b ∉ P2 := fun b hb => hP2 b (.tail _ hb)
    have hg2' : ∀ b ∈ wr, g2 b = none := fun b hb => hg2 b (.tail _ hb)
    have hDfp : D ∉ fp := fun h => by
      obtain ⟨o, e⟩ := W.live 0 _ inv0 D h
      rw [hDn] at e; cases e
    have hDwr : D ∉ wr := fun h => hDfp (W.sub _ h)
    by_cases hlt : i < ds.length
    · have hd : ds[i]? = some ds[i] := List.getElem?_eq_getElem hlt
      obtain ⟨σ3, hA, hE⟩ := turn i _ hd
      refine W.turn R hd hinv S2 st2.grow hP2' hg2' hA (fun P3 g3 h3 t3 tr inv3 S3 hP3 hg3 => ?_) (fun v s₁ h => h)
      have hD3 := tr.keep D _ hpl.choose_spec hDwr (hP2 D (.head _))
      have hgD3 : g3 D = none := by
        cases q : g3 D with
        | none => rfl
        | some z =>
          rcases tr.new D z q with h1 | h1 | h1
          · rw [hg2 D (.head _)] at h1; cases h1
          · exact absurd h1 (hP2 D (.head _))
          · rw [hpl.choose_spec] at h1; cases h1
      have hpl3 : h3.PlainList D ys := ⟨_, hD3.1⟩
      have st3 : StepW (D :: wr) (C :: ((clOf env.cells scope.names []).map (·.2) ++ ([] : List (Str × Addr)).map (·.2))) P3 g1 g3 h₁ h3 :=
        st2.trans ⟨fun a o e nw na => tr.keep a o e (fun q => nw (.tail _ q)) na, tr.grow, tr.new, tr.more⟩ hP2 (fa_cons hgD3 hg3)
      have hP3' : ∀ b ∈ D :: wr, b ∉ P3 := fa_cons hD3.2 hP3
      have hg3' : ∀ b ∈ D :: wr, g3 b = none := fa_cons hgD3 hg3
      have hat3 : AtL g3 ys.toList (outsTo out i) := hat.mono tr.grow
      have more : ∀ {P4 : List Addr} {g4 : GM} {h4 : Heap}, Step P3 P4 g3 g4 h3 h4 → inv (i + 1) h4 ∧ (∀ b ∈ D :: wr, b ∉ P4) ∧ (∀ b ∈ D :: wr, g4 b = none) ∧ h4.PlainList D ys := by
        intro P4 g4 h4 st
        have ex : ∀ b ∈ D :: wr, ∃ o, h3.get? b = some o := fa_cons ⟨_, hD3.1⟩ fun b hb => W.live _ _ inv3 b (W.sub b hb)
        refine ⟨W.frame _ _ _ inv3 fun b hb o e => (st.keep b o e ?_).1, fun b hb => ?_, fun b hb => ?_, ⟨_, (st.keep D _ hD3.1 hD3.2).1⟩⟩
        · rcases W.fz b hb with h1 | ⟨z, h1⟩
          · exact hP3 b h1
          · intro hp
            have := S3.off b hp
            rw [st3.grow _ _ h1] at this; cases this
        · obtain ⟨o, e⟩ := ex b hb
          exact (st.keep b o e (hP3' b hb)).2
        · cases q : g4 b with
          | none => rfl
          | some z =>
            obtain ⟨o, e⟩ := ex b hb
            rcases st.new b z q with h1 | h1 | h1
            · rw [hg3' b hb] at h1; cases h1
            · exact absurd h1 (hP3' b hb)
            · rw [e] at h1; cases h1
      unfold Elt at hE
      cases ho : out i with
      | none =>
        rw [ho] at hE
        obtain ⟨σ4, hT, hs⟩ := hE
        refine notE (hT A _ P3 g3 _ _ R S3 trivial fun b P4 g4 h4 t4 st4 S4 e => ?_)
        subst e
        have st4 : Step P3 P4 g3 g4 h3 h4 := st4
        obtain ⟨m1, m2, m3, m4⟩ := more st4
        simp only [Bool.false_eq_true, if_false]
        refine ⟨ds.length + 1 - (i + 1), by omega, i + 1, P4, g4, h4, t4, ys, hlt, m1, S4.weaken hs, st3.trans st4.toW hP3' m3, m2, m3, m4, ?_⟩
        unfold outsTo
        rw [ho]
        simpa using hat3.mono st4.grow
      | some d =>
        rw [ho] at hE
        obtain ⟨σ4, σ5, hT, hV, hs⟩ := hE
        refine notE (hT A _ P3 g3 _ _ R S3 trivial fun b P4 g4 h4 t4 st4 S4 e => ?_)
        subst e
        simp only [if_true]
        refine notE (hV A _ P4 g4 _ _ R S4 trivial fun v P5 g5 h5 t5 st5 S5 av => ?_)
        have st5 : Step P3 P5 g3 g5 h3 h5 := Step.trans st4 st5
        obtain ⟨m1, m2, m3, m4⟩ := more st5
        have hys : ys.size ≤ sizeLine := by
          have e1 := atL_len hat
          have e2 := outsTo_len out i
          have e3 : ys.toList.length = ys.size := by simp
          have e4 : 1000 ≤ sizeLine := by decide +kernel
          omega
        refine wpAny_list_append_plain (hsz := hys) m4 fun h6 hl6 hs6 => ?_
        have hs6 : Heap.SameBut D h5 h6 := hs6
        have S6 : St Γ (relabS scope sc) σ5 P5 g5 (compEnvC scope (clOf env.cells scope.names []) C env) h6 := S5.but (wr := [D]) (fun b hb => by rw [List.mem_singleton.mp hb]; exact m2 D (.head _)) (fun b hb => by rw [List.mem_singleton.mp hb]; exact m3 D (.head _)) fun b o nb e => (hs6.2 b fun q => nb (by rw [q]; exact .head _)).trans e
        refine ⟨ds.length + 1 - (i + 1), by omega, i + 1, P5, g5, h6, t5, ys.push v, hlt, W.frame _ _ _ m1 fun b hb o e => (hs6.2 b fun q => hDfp (q ▸ hb)).trans e, S6.weaken hs, ?_, m2, m3, hl6, ?_⟩
        · exact (st3.trans st5.toW hP3' m3).but (fun b o nb e => (hs6.2 b fun q => nb (by rw [q]; exact .head _)).trans e) (fa_cons ⟨_, hl6.choose_spec⟩ fun b hb' => (W.live _ _ m1 b (W.sub b hb')).imp fun o e => (hs6.2 b fun q => hDwr (q ▸ hb')).trans e)
        · unfold outsTo
          rw [ho]
          have := atL_append (hat3.mono st5.grow) (atL_cons av atL_nil)
          simpa using this
    · have hin : i = ds.length := by omega
      subst hin
      refine W.done _ _ _ hinv fun h3 t3 hk => ?_
      have hinn : ∀ b ∈ D :: wr, b ∉ P1 := fa_cons (fun h => by obtain ⟨o, e⟩ := S.inn D h; rw [hDn] at e; cases e) hP
      obtain ⟨S4, st4⟩ := S.back ok hCn old hi S2 hinn st2
      have S5 := S4.but (wr := wr) hP hg2' hk
      have hD5 : h3.get? D = some (listObj ys.toList hpl.choose) := hk D _ hDwr (by have := hpl.choose_spec; simpa using this)
      obtain ⟨S6, le6⟩ := S5.freeze hD5 (hinn D (.head _))
      obtain ⟨m', os', Bi⟩ := S2.body
      refine hRR D C h3 t3 _ S6 (fun hb P0 gb st n => ?_) (mk_list (n := hpl.choose) (by unfold GM.ins; rw [if_pos rfl]) (hat.mono le6)) ?_ ?_ hCn ⟨m', Bi.ns.at' fun o e => hk _ o (fun q => hPi _ q (.head _)) e⟩
      · have hbD : hb.get? D = none := by
          cases q : hb.get? D with
          | none => rfl
          | some z => obtain ⟨z', e'⟩ := st.more D z q; rw [hDn] at e'; cases e'
        have a1 := (st4.app st (fa_cons hbD n)).but n hk
        refine ⟨a1.keep, a1.grow.trans le6, fun a o e => ?_, a1.more⟩
        unfold GM.ins at e
        by_cases q : a = D
        · rw [q]; exact .inr (.inr hbD)
        · rw [if_neg q] at e; exact a1.new a o e
      · intro h; obtain ⟨o, e⟩ := S.inn C h; rw [hCn] at e; cases e
      · unfold GM.ins
        rw [if_neg (Ne.symm hDC)]
        have : C ∈ P2 := by rw [Bi.prot]; exact .head _
        exact S2.off C this
  exact codeAny_compStart_list (loop _ rfl) (W.self 0 _ _ _ inv1 (loop _ rfl))
end Mine
end

section
open PySem PySem.W PyProof.Rows PySem.Calls
set_option maxRecDepth 100000
namespace Mine
variable {Γ : Gl} {sc : Scope} {k : Nat} {σ σ1 σ2 σ3 : Ctx}

theorem free_cells {P : List Addr} {g : GM} {env : Env} {h : Heap} {scope : Scope} (S : St Γ sc σ P g env h) (ok : CompOk scope sc) : ∀ x ∈ scope.names, x.2 = .free → ∃ c, env.cells.lookup x.1 = some c := fun x hx e => by
  obtain ⟨m, os, B⟩ := S.body
  obtain ⟨c, v, h1, _⟩ := B.cells x.1 (ok.free x hx e)
  exact ⟨c, h1⟩

theorem EvE.comp {scope : Scope} {σc : Ctx} {elt tgt iter : Expr} {ifs : List Expr} {pos : Pos} {ds res : List D} (hI : EvI Γ sc k iter tgt σ ds σ1) (hok : compOk scope sc = true) (hi : Inner scope σ1 σc)
    (hds : ds.length ≤ 1000) (out : Nat → Option D) (turn : ∀ i d, ds[i]? = some d → ∃ σ3, AsgD Γ (relabS scope sc) k tgt σc d σ3 ∧ Elt Γ (relabS scope sc) k ifs elt σ3 σc (out i)) (hres : outsTo out ds.length = res)
    (hs : ∀ env x, foldedSetIterable iter env x = pure x := by intro _ _; with_unfolding_all rfl) : EvE Γ sc k (.ListComp elt [⟨tgt, iter, ifs, 0⟩] scope pos) σ (.list res) σ1 := by
  intro A env P g s Q R S _ q
  have ok := CompOk.of hok
  rw [eval_ListComp]
  refine wpAny_comprehension_free (use := Option.none) rfl (hs env) (closure_eq (free_cells S ok)) ok.kind ok.loc (wpAny_mono (hI A env P g s _ R S fun P1 g1 h1 t1 I fp wr inv st1 S1 W inv0 fr hP hg => ?_) (fun x s₁ h => h) fun _ _ e => e)
  refine comp_core (RR := fun acc C => compPost (model Γ.prog Γ.w) A noE Option.none Q acc C) R ok hi S1 W inv0 hP hg hds out turn fun D C h' tk g' S' tr hat hC1 hC2 hC3 ⟨m, hm⟩ => ⟨m, hm, fun h'' hs'' => ?_⟩
  have hs'' : Heap.SameBut C h' h'' := hs''
  have kk : ∀ b o, b ∉ [C] → h'.get? b = some o → h''.get? b = some o := fun b o nb e => (hs''.2 b fun q => nb (by rw [q]; exact .head _)).trans e
  have hC3 : h1.get? C = Option.none := hC3
  refine q (.ref D) P1 g' h'' tk ((tr s.heap P g st1 fr).but (wr := [C]) (fun b hb => ?_) kk) (S'.but (fun b hb => by rw [List.mem_singleton.mp hb]; exact hC1) (fun b hb => by rw [List.mem_singleton.mp hb]; exact hC2) kk) (hres ▸ hat)
  rw [List.mem_singleton.mp hb]
  exact st1.fresh hC3

theorem Ex1.assignComp {scope : Scope} {σc : Ctx} {elt tgt iter : Expr} {ifs : List Expr} {pos p' spos : Pos} {y : Str} {ds res : List D} (hI : EvI Γ sc k iter tgt σ ds σ1) (hok : compOk scope sc = true) (hi : Inner scope σ1 σc)
    (hds : ds.length ≤ 1000) (out : Nat → Option D) (turn : ∀ i d, ds[i]? = some d → ∃ σ3, AsgD Γ (relabS scope sc) k tgt σc d σ3 ∧ Elt Γ (relabS scope sc) k ifs elt σ3 σc (out i)) (hres : outsTo out ds.length = res) (hy : Stored sc y)
    (hsw : ∀ env, env.scope = sc → swapsWith (.ListComp elt [⟨tgt, iter, ifs, 0⟩] scope pos) (some (.Name y p')) spos.line env = pure true := by intro env h; rcases env with ⟨⟩; cases h; with_unfolding_all rfl)
    (hs : ∀ env x, foldedSetIterable iter env x = pure x := by intro _ _; with_unfolding_all rfl) : Ex1 Γ sc k (.Assign [.Name y p'] (.ListComp elt [⟨tgt, iter, ifs, 0⟩] scope pos) spos) σ (.to (upd σ1 y (.d (.list res)))) := by
  intro A env P g s Q R S q
  have ok := CompOk.of hok
  rw [exec_Assign_Name_used _ _ _ _ (hsw env S.scope)]
  refine wpAny_bind (wpAny_standAt (wpAny_bind ?_))
  show wpAny _ A (do let _ ← comprehension (.ListComp elt [⟨tgt, iter, ifs, 0⟩] scope pos) scope env _ (newList []) false (eval iter env) (some (PySem.assign (.Name y p') env))) _ _ s
  refine wpAny_bind (wpAny_mono (wpAny_comprehension_free (use := some (PySem.assign (.Name y p') env)) (Q := fun _ s' => Q .next s') rfl (hs env) (closure_eq (free_cells S ok)) ok.kind ok.loc
    (wpAny_mono (hI A env P g s _ R S fun P1 g1 h1 t1 I fp wr inv st1 S1 W inv0 fr hP hg => ?_) (fun x s₁ h => h) fun _ _ e => e)) (fun _ s' hq => wpAny_pure (wpAny_pure hq)) fun _ _ e => e)
  refine comp_core (RR := fun acc C => compPost (model Γ.prog Γ.w) A noE (some (PySem.assign (.Name y p') env)) (fun _ s' => Q .next s') acc C) R ok hi S1 W inv0 hP hg hds out turn fun D C h' tk g' S' tr hat hC1 hC2 hC3 ⟨m, hm⟩ => ?_
  show wpAny _ A (PySem.assign (.Name y p') env (.ref D)) _ _ _
  refine wpAny_assign_Name (store_d S' hy (d := .list res) (hres ▸ hat) fun h2 t2 st2 S2 => ?_)
  have st2 : Step P1 P1 g' g' h' h2 := st2
  have S2 : St Γ sc (upd σ1 y (.d (.list res))) P1 g' env h2 := S2
  refine ⟨m, hm.at' fun o e => (st2.keep C o e hC1).1, fun h'' hs'' => ?_⟩
  have hs'' : Heap.SameBut C h2 h'' := hs''
  have kk : ∀ b o, b ∉ [C] → h2.get? b = some o → h''.get? b = some o := fun b o nb e => (hs''.2 b fun q => nb (by rw [q]; exact .head _)).trans e
  have hC3 : h1.get? C = Option.none := hC3
  refine q _ P1 g' h'' t2 rfl (((tr s.heap P g st1 fr).trans st2).but (wr := [C]) (fun b hb => ?_) kk) (S2.but (fun b hb => by rw [List.mem_singleton.mp hb]; exact hC1) (fun b hb => by rw [List.mem_singleton.mp hb]; exact hC2) kk)
  rw [List.mem_singleton.mp hb]
  exact st1.fresh hC3

theorem Raw.ofWalks {A : Around} {tgt : Expr} {I : Addr} {fp wr : List Addr} {n : Nat} {ds : List D} {Pv : Nat → Value → Prop} {inv : Nat → Heap → Prop} {g0 : GM} (W : Walks Γ.prog Γ.w A I fp wr n Pv inv) (hn : n = ds.length)
    (hv : ∀ i d v (g : GM), ds[i]? = some d → Pv i v → g0.le g → At g v d) (live : ∀ i h, inv i h → ∀ b ∈ fp, ∃ o, h.get? b = some o) (fz : ∀ b ∈ fp, b ∈ wr ∨ ∃ o, g0 b = some o)
    (hgo : ∀ v, letOwnedTupleGo tgt (.ref I) v = pure ()) : Raw Γ A tgt I fp wr ds inv g0 where
  sub := W.sub
  frame := W.frame
  live := live
  fz := fz
  item := fun i d g s Q E hd hinv le stay hQ => by
    have hi : i < n := by rw [hn]; exact (List.getElem?_eq_some_iff.mp hd).1
    refine W.item i s _ E hi hinv fun v h' tk hp hinv' hk => ?_
    show wpAny _ A (letOwnedTupleGo tgt (.ref I) v) _ E _
    rw [hgo]
    exact wpAny_pure (hQ v h' tk hk hinv' (.inl (hv i d v g hd hp le)))
  done := fun s Q E hinv hQ => W.done s Q E (hn ▸ hinv) hQ
  self := W.self

theorem isList_there {h : Heap} {a : Addr} {items : Array Value} (x : h.IsList a items) : ∃ o, h.get? a = some o := let ⟨o, e, _⟩ := x; ⟨o, e⟩

theorem EvI.list {iter : Expr} {x : Str} {px : Pos} {ds : List D} (h : EvE Γ sc k iter σ (.list ds) σ1) : EvI Γ sc k iter (.Name x px) σ ds σ1 := by
  intro A env P g s Q R S q
  refine h A env P g s _ R S trivial fun v P1 g1 h1 t1 st1 S1 a1 => ?_
  obtain ⟨ad, vs, e, rfl, ga, r⟩ := at_list a1
  have hl : h1.IsList ad vs.toArray := ⟨_, S1.stay _ _ ga, rfl, e, rfl⟩
  refine wpAny_pyIter_list (s := { s with heap := h1, toks := t1 }) hl ?_
  have hlt : ad < h1.objs.size := Heap.lt_size (S1.stay _ _ ga)
  have hIn : h1.get? h1.objs.size = none := by
    cases q : h1.get? h1.objs.size with
    | none => rfl
    | some z => exact absurd (Heap.lt_size q) (Nat.lt_irrefl _)
  have S2 := S1.kept (h' := h1.push { cls := .type "list_iterator", data := .fields #[.ref ad, .int 0 0] }) fun a x e => Heap.get?_push_of_some _ e
  refine q P1 g1 _ t1 h1.objs.size _ _ _ (st1.trans (Step.push _)) S2 (Raw.ofWalks (Walks.list R.handled h1.objs.size ad (Nat.ne_of_lt hlt) vs.toArray) (by simp [atL_len r]) (fun i d v g hd hp le => ?_) (fun i h ⟨⟨o, e, _⟩, hl'⟩ b hb => ?_) (fun b hb => ?_) fun v => rfl)
    ⟨⟨_, Heap.get?_push_size _ rfl, rfl, rfl⟩, hl.push _⟩ (fun b hb => ?_) (fun b hb => ?_) (fun b hb => ?_)
  · obtain ⟨v', hv', hat⟩ := atL_get (r.mono le) hd
    have hp : vs[i]? = some v := by simpa using hp
    rw [hp] at hv'; cases hv'
    exact hat
  · simp only [List.mem_cons, List.not_mem_nil, or_false] at hb
    rcases hb with rfl | rfl
    · exact ⟨o, e⟩
    · exact isList_there hl'
  · simp only [List.mem_cons, List.not_mem_nil, or_false] at hb
    rcases hb with rfl | rfl
    · exact .inl (.head _)
    · exact .inr ⟨_, ga⟩
  · rw [List.mem_singleton.mp hb]; exact st1.fresh hIn
  · rw [List.mem_singleton.mp hb]; intro h; obtain ⟨o, e⟩ := S1.inn _ h; rw [hIn] at e; cases e
  · rw [List.mem_singleton.mp hb]
    cases q : g1 h1.objs.size with
    | none => rfl
    | some z => have := S1.stay _ z q; rw [hIn] at this; cases this

theorem EvI.tup {iter : Expr} {x : Str} {px : Pos} {ds : List D} (h : EvE Γ sc k iter σ (.tup ds) σ1) : EvI Γ sc k iter (.Name x px) σ ds σ1 := by
  intro A env P g s Q R S q
  refine h A env P g s _ R S trivial fun v P1 g1 h1 t1 st1 S1 a1 => ?_
  obtain ⟨ad, vs, e, rfl, ga, r⟩ := at_tup a1
  have hl : h1.IsTuple ad vs.toArray := ⟨_, S1.stay _ _ ga, rfl, e, rfl⟩
  refine wpAny_pyIter_tuple (s := { s with heap := h1, toks := t1 }) hl ?_
  have hlt : ad < h1.objs.size := Heap.lt_size (S1.stay _ _ ga)
  have hIn : h1.get? h1.objs.size = none := by
    cases q : h1.get? h1.objs.size with
    | none => rfl
    | some z => exact absurd (Heap.lt_size q) (Nat.lt_irrefl _)
  have S2 := S1.kept (h' := h1.push { cls := .type "tuple_iterator", data := .fields #[.ref ad, .int 0 0] }) fun a x e => Heap.get?_push_of_some _ e
  refine q P1 g1 _ t1 h1.objs.size _ _ _ (st1.trans (Step.push _)) S2 (Raw.ofWalks (Walks.tuple R.handled h1.objs.size ad (Nat.ne_of_lt hlt) vs.toArray) (by simp [atL_len r]) (fun i d v g hd hp le => ?_) (fun i h ⟨⟨o, e, _⟩, ⟨o', e', _⟩⟩ b hb => ?_) (fun b hb => ?_) fun v => rfl)
    ⟨⟨_, Heap.get?_push_size _ rfl, rfl, rfl⟩, hl.push _⟩ (fun b hb => ?_) (fun b hb => ?_) (fun b hb => ?_)
  · obtain ⟨v', hv', hat⟩ := atL_get (r.mono le) hd
    have hp : vs[i]? = some v := by simpa using hp
    rw [hp] at hv'; cases hv'
    exact hat
  · simp only [List.mem_cons, List.not_mem_nil, or_false] at hb
    rcases hb with rfl | rfl
    · exact ⟨o, e⟩
    · exact ⟨o', e'⟩
  · simp only [List.mem_cons, List.not_mem_nil, or_false] at hb
    rcases hb with rfl | rfl
    · exact .inl (.head _)
    · exact .inr ⟨_, ga⟩
  · rw [List.mem_singleton.mp hb]; exact st1.fresh hIn
  · rw [List.mem_singleton.mp hb]; intro h; obtain ⟨o, e⟩ := S1.inn _ h; rw [hIn] at e; cases e
  · rw [List.mem_singleton.mp hb]
    cases q : g1 h1.objs.size with
    | none => rfl
    | some z => have := S1.stay _ z q; rw [hIn] at this; cases this

noncomputable def rangeD (a : Int) (n : Nat) : List D := (List.range n).map fun (i : Nat) => D.int (a + i)
theorem rangeD_len {a : Int} {n : Nat} : (rangeD a n).length = n := by simp [rangeD]
theorem rangeD_get {a : Int} {n i : Nat} {d : D} (h : (rangeD a n)[i]? = some d) : i < n ∧ d = .int (a + i) := by
  unfold rangeD at h
  rw [List.getElem?_map] at h
  obtain ⟨j, hj, rfl⟩ := Option.map_eq_some_iff.mp h
  obtain ⟨h1, h2⟩ := List.getElem?_eq_some_iff.mp hj
  simp at h1 h2
  subst h2
  exact ⟨h1, rfl⟩

theorem range_raw {A : Around} {env : Env} {P1 : List Addr} {g1 : GM} {x : Str} {px : Pos} {s : Shared} {a b : Int} {t u v : Tok} {r : Addr} {Q : Value → Shared → Prop} (R : Room A k) (S1 : St Γ sc σ1 P1 g1 env s.heap) (hr : IsRange s.heap r a b 1 t u v) (ha : -1000 ≤ a ∧ a ≤ 1000) (hb : -1000 ≤ b ∧ b ≤ 1000)
    (q : ∀ h' tk I fp wr inv, (∀ a o, s.heap.get? a = some o → h'.get? a = some o) → St Γ sc σ1 P1 g1 env h' → Raw Γ A (.Name x px) I fp wr (rangeD a (b - a).toNat) inv g1 → inv 0 h' → (∀ b ∈ wr, s.heap.get? b = none) → (∀ b ∈ wr, b ∉ P1) → (∀ b ∈ wr, g1 b = none) → Q (.ref I) { s with heap := h', toks := tk }) :
    wpAny (model Γ.prog Γ.w) A (pyIter (.ref r)) Q noE s := by
  refine wpAny_pyIter_range hr (small_one (by omega) (by omega) (by omega) (by omega)) ?_
  have hsz : Builtin.Range.rangeSize a b 1 = ((b - a).toNat : Int) := by rw [rangeSize_one]; split <;> omega
  have hIn : s.heap.get? s.heap.objs.size = none := by
    cases q : s.heap.get? s.heap.objs.size with
    | none => rfl
    | some z => exact absurd (Heap.lt_size q) (Nat.lt_irrefl _)
  refine q _ s.toks s.heap.objs.size _ _ _ (fun a x e => Heap.get?_push_of_some _ e) (S1.kept fun a x e => Heap.get?_push_of_some _ e) (Raw.ofWalks (Walks.range R.handled s.heap.objs.size a 1 (b - a).toNat) rangeD_len.symm (fun i d v g hd hp le => ?_) (fun i h e b hb => ?_) (fun b hb => .inl hb) fun v => rfl) ?_
    (fun b hb => ?_) (fun b hb => ?_) (fun b hb => ?_)
  · obtain ⟨_, rfl⟩ := rangeD_get hd
    obtain ⟨t, rfl⟩ := hp
    rw [Int.mul_one]
    exact mk_int
  · rw [List.mem_singleton.mp hb]; exact ⟨_, e⟩
  · have e1 : (a + ((0 : Nat) : Int) * 1) = a := by simp
    have e2 : (((b - a).toNat : Int) - ((0 : Nat) : Int)) = Builtin.Range.rangeSize a b 1 := by rw [hsz]; simp
    rw [e1, e2]
    exact Heap.get?_push_size _ rfl
  · rw [List.mem_singleton.mp hb]; exact hIn
  · rw [List.mem_singleton.mp hb]; intro h; obtain ⟨o, e⟩ := S1.inn _ h; rw [hIn] at e; cases e
  · rw [List.mem_singleton.mp hb]
    cases q : g1 s.heap.objs.size with
    | none => rfl
    | some z => have := S1.stay _ z q; rw [hIn] at this; cases this

end Mine
end

section
open PySem PySem.W PyProof.Rows PySem.Calls
set_option maxRecDepth 100000
namespace Mine
variable {Γ : Gl} {sc : Scope} {k : Nat} {σ σ1 σ2 σ3 : Ctx}

theorem EvI.range1 {e : Expr} {x : Str} {px np pos : Pos} {n : Int} (h1 : EvE Γ sc k e σ (.int n) σ1) (hn : -1000 ≤ n ∧ n ≤ 1000) (hx : sc.names.lookup (Str.ofString "range") = some .globalImplicit)
    (he : ∀ env, starEach [e] env = (false, eval e env) :: starEach [] env := by intro _; with_unfolding_all rfl) : EvI Γ sc k (.Call (.Name (Str.ofString "range") np) [e] [] pos) (.Name x px) σ (rangeD 0 n.toNat) σ1 := by
  intro A env P g s Q R S q
  refine wpAny_Call_ofName (EvE.builtin S hx b_range.1 b_range.2.1 b_range.2.2 ?_ (by decide +kernel))
  refine PyProof.Rows.callWith_type1 (EvL.cons h1 EvL.nil he pos A env P g s _ R S trivial fun vs P1 g1 h1' t1 st1 S1 a1 => ?_) (he env) rfl
  obtain ⟨v, rfl, a2⟩ := atL_one a1
  obtain ⟨t, rfl⟩ := at_int a2
  refine call_range_1 ?_
  have S2 : St Γ sc σ1 P1 g1 env (h1'.push { cls := .type "range", data := .fields #[.int 0 t1, .int n t, .int 1 (t1 + 1)] }) := S1.kept fun a x e => Heap.get?_push_of_some _ e
  refine range_raw (x := x) (px := px) (s := { s with heap := h1'.push { cls := .type "range", data := .fields #[.int 0 t1, .int n t, .int 1 (t1 + 1)] }, toks := t1 + 1 + 1 }) R S2 (IsRange.new ..) (by omega) hn fun h' tk I fp wr inv kk S3 W inv0 fr hP hg => ?_
  have kk2 : ∀ a o, h1'.get? a = some o → h'.get? a = some o := fun a o e => kk a o (Heap.get?_push_of_some _ e)
  rw [show n - 0 = n by omega] at W
  refine q P1 g1 h' tk I fp wr inv (st1.trans (Step.of_keep kk2)) S3 W inv0 (fun b hb => st1.fresh ?_) hP hg
  cases q : h1'.get? b with
  | none => rfl
  | some z =>
    have := fr b hb
    have e := Heap.get?_push_of_some { cls := .type "range", data := .fields #[.int 0 t1, .int n t, .int 1 (t1 + 1)] } q
    exact absurd (this.symm.trans e) (by simp)

theorem EvI.range2 {e e' : Expr} {x : Str} {px np pos : Pos} {m n : Int} (h1 : EvL Γ sc k [e, e'] σ [.int m, .int n] σ1) (hm : -1000 ≤ m ∧ m ≤ 1000) (hn : -1000 ≤ n ∧ n ≤ 1000) (hx : sc.names.lookup (Str.ofString "range") = some .globalImplicit)
    (he : ∀ env, starEach [e, e'] env = (false, eval e env) :: starEach [e'] env := by intro _; with_unfolding_all rfl) (hp : ∀ env, (backTo pos (starEach [e'] env)).any (·.1) = false := by intro _; with_unfolding_all rfl) : EvI Γ sc k (.Call (.Name (Str.ofString "range") np) [e, e'] [] pos) (.Name x px) σ (rangeD m (n - m).toNat) σ1 := by
  intro A env P g s Q R S q
  refine wpAny_Call_ofName (EvE.builtin S hx b_range.1 b_range.2.1 b_range.2.2 ?_ (by decide +kernel))
  refine PyProof.Rows.callWith_type1 (h1 pos A env P g s _ R S trivial fun vs P1 g1 h1' t1 st1 S1 a1 => ?_) (he env) (hp env)
  obtain ⟨v, u, rfl, a2, a3⟩ := atL_two a1
  obtain ⟨t, rfl⟩ := at_int a2
  obtain ⟨t', rfl⟩ := at_int a3
  refine call_range_2 ?_
  have S2 : St Γ sc σ1 P1 g1 env (h1'.push { cls := .type "range", data := .fields #[.int m t, .int n t', .int 1 t1] }) := S1.kept fun a x e => Heap.get?_push_of_some _ e
  refine range_raw (x := x) (px := px) (s := { s with heap := h1'.push { cls := .type "range", data := .fields #[.int m t, .int n t', .int 1 t1] }, toks := t1 + 1 }) R S2 (IsRange.new ..) hm hn fun h' tk I fp wr inv kk S3 W inv0 fr hP hg => ?_
  have kk2 : ∀ a o, h1'.get? a = some o → h'.get? a = some o := fun a o e => kk a o (Heap.get?_push_of_some _ e)
  refine q P1 g1 h' tk I fp wr inv (st1.trans (Step.of_keep kk2)) S3 W inv0 (fun b hb => st1.fresh ?_) hP hg
  cases q : h1'.get? b with
  | none => rfl
  | some z =>
    have := fr b hb
    have e := Heap.get?_push_of_some { cls := .type "range", data := .fields #[.int m t, .int n t', .int 1 t1] } q
    exact absurd (this.symm.trans e) (by simp)

end Mine
end

section
open PySem PySem.W PyProof.Rows PySem.Calls
set_option maxRecDepth 100000
namespace Mine
variable {Γ : Gl} {sc : Scope} {k : Nat} {σ σ1 σ2 σ3 : Ctx}

theorem EvI.rev {e : Expr} {x : Str} {px np pos : Pos} {ds : List D} (h1 : EvE Γ sc k e σ (.list ds) σ1) (hx : sc.names.lookup (Str.ofString "reversed") = some .globalImplicit)
    (he : ∀ env, starEach [e] env = (false, eval e env) :: starEach [] env := by intro _; with_unfolding_all rfl) : EvI Γ sc k (.Call (.Name (Str.ofString "reversed") np) [e] [] pos) (.Name x px) σ ds.reverse σ1 := by
  intro A env P g s Q R S q
  refine wpAny_Call_ofName (EvE.builtin S hx b_reversed.1 b_reversed.2.1 b_reversed.2.2 ?_ (by decide +kernel))
  refine PyProof.Rows.callWith_type1 (EvL.cons h1 EvL.nil he pos A env P g s _ R S trivial fun vs P1 g1 h1' t1 st1 S1 a1 => ?_) (he env) rfl
  obtain ⟨v, rfl, a2⟩ := atL_one a1
  obtain ⟨ad, vs, e, rfl, ga, r⟩ := at_list a2
  have hl : h1'.IsList ad vs.toArray := ⟨_, S1.stay _ _ ga, rfl, e, rfl⟩
  refine call_reversed_list (s := { s with heap := h1', toks := t1 }) hl ?_
  have hlt : ad < h1'.objs.size := Heap.lt_size (S1.stay _ _ ga)
  have hIn : h1'.get? h1'.objs.size = none := by
    cases q : h1'.get? h1'.objs.size with
    | none => rfl
    | some z => exact absurd (Heap.lt_size q) (Nat.lt_irrefl _)
  have hI : (h1'.push (revObj ad ((vs.toArray.size : Int) - 1))).IsRevIter h1'.objs.size ad ((vs.toArray.size : Int) - 1) := ⟨_, Heap.get?_push_size _ rfl, rfl, rfl⟩
  refine wpAny_pyIter_revIter hI ?_
  have S2 : St Γ sc σ1 P1 g1 env (h1'.push (revObj ad ((vs.toArray.size : Int) - 1))) := S1.kept fun a x e => Heap.get?_push_of_some _ e
  refine q P1 g1 _ t1 h1'.objs.size _ _ _ (st1.trans (Step.push _)) S2 (Raw.ofWalks (Walks.listRev R.handled h1'.objs.size ad (Nat.ne_of_lt hlt) vs.toArray) (by simp [atL_len r]) (fun i d v g hd hp le => ?_) (fun i h ⟨_, ⟨o, e, _⟩, hl'⟩ b hb => ?_) (fun b hb => ?_) fun v => rfl)
    ⟨Nat.zero_le _, by simpa using hI, hl.push _⟩ (fun b hb => ?_) (fun b hb => ?_) (fun b hb => ?_)
  · have hil : i < ds.length := by have := (List.getElem?_eq_some_iff.mp hd).1; simpa using this
    have hd' : ds[ds.length - 1 - i]? = some d := by rw [List.getElem?_reverse hil] at hd; exact hd
    obtain ⟨v', hv', hat⟩ := atL_get (r.mono le) hd'
    have hp : vs[vs.length - 1 - i]? = some v := by simpa using hp
    rw [atL_len r] at hp
    rw [hp] at hv'; cases hv'
    exact hat
  · simp only [List.mem_cons, List.not_mem_nil, or_false] at hb
    rcases hb with rfl | rfl
    · exact ⟨o, e⟩
    · exact isList_there hl'
  · simp only [List.mem_cons, List.not_mem_nil, or_false] at hb
    rcases hb with rfl | rfl
    · exact .inl (.head _)
    · exact .inr ⟨_, ga⟩
  · rw [List.mem_singleton.mp hb]; exact st1.fresh hIn
  · rw [List.mem_singleton.mp hb]; intro h; obtain ⟨o, e⟩ := S1.inn _ h; rw [hIn] at e; cases e
  · rw [List.mem_singleton.mp hb]
    cases q : g1 h1'.objs.size with
    | none => rfl
    | some z => have := S1.stay _ z q; rw [hIn] at this; cases this

end Mine
end

section
open PySem PySem.W PyProof.Rows PySem.Calls
set_option maxRecDepth 100000
namespace Mine
variable {Γ : Gl} {sc : Scope} {k : Nat} {σ σ1 σ2 σ3 : Ctx}

noncomputable def enumD : Nat → List D → List D
  | _, [] => []
  | i, d :: ds => .tup [.int i, d] :: enumD (i + 1) ds
theorem enumD_len : ∀ (i : Nat) (ds : List D), (enumD i ds).length = ds.length
  | _, [] => rfl
  | i, d :: ds => by simp [enumD, enumD_len (i + 1) ds]
theorem enumD_get : ∀ {i : Nat} {ds : List D} {j : Nat} {e : D}, (enumD i ds)[j]? = some e → ∃ d, ds[j]? = some d ∧ e = .tup [.int ((i + j : Nat) : Int), d]
  | i, [], j, e, h => by simp [enumD] at h
  | i, d :: ds, 0, e, h => by simp [enumD] at h; exact ⟨d, rfl, by rw [← h]; simp⟩
  | i, d :: ds, j + 1, e, h => by
    simp [enumD] at h
    obtain ⟨d', h1, h2⟩ := enumD_get h
    exact ⟨d', by simpa using h1, by rw [h2]; congr 3; omega⟩

theorem EvI.enum {e : Expr} {ts : List Expr} {n : Nat} {np pos tp : Pos} {ds : List D} (h1 : EvE Γ sc k e σ (.list ds) σ1) (hx : sc.names.lookup (Str.ofString "enumerate") = some .globalImplicit)
    (he : ∀ env, starEach [e] env = (false, eval e env) :: starEach [] env := by intro _; with_unfolding_all rfl) : EvI Γ sc k (.Call (.Name (Str.ofString "enumerate") np) [e] [] pos) (.Tuple ts n tp) σ (enumD 0 ds) σ1 := by
  intro A env P g s Q R S q
  refine wpAny_Call_ofName (EvE.builtin S hx b_enumerate.1 b_enumerate.2.1 b_enumerate.2.2 ?_ (by decide +kernel))
  refine PyProof.Rows.callWith_type1 (EvL.cons h1 EvL.nil he pos A env P g s _ R S trivial fun vs P1 g1 h1' t1 st1 S1 a1 => ?_) (he env) rfl
  obtain ⟨v, rfl, a2⟩ := atL_one a1
  obtain ⟨ad, vs, e, rfl, ga, r⟩ := at_list a2
  have hl0 : h1'.get? ad = some { cls := .type "list", dict := none, data := .seq vs.toArray e, slots := #[] } := S1.stay _ _ ga
  refine call_enumerate_1 (s := { s with heap := h1', toks := t1 }) hl0 fun h2 hE hit hsz kk => ?_
  have kk : ∀ b o, h1'.get? b = some o → h2.get? b = some o := kk
  have hE : IsEnum h2 (h1'.objs.size + 1) h1'.objs.size 0 .none := hE
  have hit : h2.IsListIter h1'.objs.size ad 0 := hit
  have hl : h2.IsList ad vs.toArray := ⟨_, kk _ _ hl0, rfl, e, rfl⟩
  have hlt : ad < h1'.objs.size := Heap.lt_size hl0
  have fresh : ∀ a, h1'.objs.size ≤ a → h1'.get? a = none := fun a ha => by
    cases q : h1'.get? a with
    | none => rfl
    | some z => exact absurd (Heap.lt_size q) (Nat.not_lt.mpr ha)
  refine wpAny_pyIter_enum (s := { s with heap := h2, toks := t1 }) hE ?_
  have S2 := S1.kept kk
  have hei : h1'.objs.size + 1 ≠ h1'.objs.size := Nat.succ_ne_self _
  have hle : ad ≠ h1'.objs.size + 1 := Nat.ne_of_lt (Nat.lt_succ_of_lt hlt)
  have hli : ad ≠ h1'.objs.size := Nat.ne_of_lt hlt
  have W := WalksT.enumerate (prog := Γ.prog) (w := Γ.w) R.handled (h1'.objs.size + 1) h1'.objs.size ad hei hle hli vs.toArray
  refine q P1 g1 h2 t1 (h1'.objs.size + 1) [h1'.objs.size + 1, h1'.objs.size, ad] [h1'.objs.size + 1, h1'.objs.size] (fun i h => (∃ old, IsEnum h (h1'.objs.size + 1) h1'.objs.size i old) ∧ h.IsListIter h1'.objs.size ad i ∧ h.IsList ad vs.toArray)
    (st1.trans (Step.of_keep kk)) S2 { sub := W.sub, frame := W.frame, live := fun i h hi b hb => ?_, fz := fun b hb => ?_, item := fun i d g s Q E hd hinv le stay hQ => ?_, done := fun s Q E hinv hQ => ?_, self := W.self } ⟨⟨_, hE⟩, hit, hl⟩ (fun b hb => ?_) (fun b hb => ?_) (fun b hb => ?_)
  · obtain ⟨⟨old, h1⟩, ⟨o, h2, _⟩, h3⟩ := hi
    simp only [List.mem_cons, List.not_mem_nil, or_false] at hb
    rcases hb with rfl | rfl | rfl
    · exact ⟨_, h1⟩
    · exact ⟨o, h2⟩
    · exact isList_there h3
  · simp only [List.mem_cons, List.not_mem_nil, or_false] at hb
    rcases hb with rfl | rfl | rfl
    · exact .inl (.head _)
    · exact .inl (.tail _ (.head _))
    · exact .inr ⟨_, ga⟩
  · obtain ⟨d', hd', rfl⟩ := enumD_get hd
    obtain ⟨⟨old, h1⟩, h2, h3⟩ := hinv
    obtain ⟨v, hv, hat⟩ := atL_get (r.mono le) hd'
    refine wpAny_pyNext_enum_item h1 h2 h3 (x := v) (by simpa using hv) hei fun h' ho hit' hT hsz hk => ?_
    show wpAny _ A (letOwnedTupleGo (.Tuple ts n tp) (.ref (h1'.objs.size + 1)) (.ref s.heap.objs.size)) _ E _
    refine wpAny_letOwnedTupleGo_enum ho fun h4 he4 hs4 => ?_
    have hs4 : Heap.SameBut (h1'.objs.size + 1) h' h4 := hs4
    have hTn : s.heap.get? s.heap.objs.size = none := by
      cases q : s.heap.get? s.heap.objs.size with
      | none => rfl
      | some z => exact absurd (Heap.lt_size q) (Nat.lt_irrefl _)
    have hne : s.heap.objs.size ≠ h1'.objs.size + 1 := fun e => by rw [e] at hTn; rw [h1] at hTn; cases hTn
    refine hQ _ h4 (s.toks + 1) (fun b o nb e => (hs4.2 b fun q => nb (by rw [q]; exact .head _)).trans (hk b o (fun q => nb (by rw [q]; exact .head _)) (fun q => nb (by rw [q]; exact .tail _ (.head _))) e)) ⟨⟨_, by simpa using he4⟩, hit'.at fun o e => (hs4.2 _ hei.symm).trans e, h3.at fun o e => (hs4.2 _ hle).trans (hk _ o hle hli e)⟩
      (.inr ⟨s.heap.objs.size, [.int i s.toks, v], 0, _, rfl, rfl, hTn, (hs4.2 _ hne).trans hT, atL_cons (by rw [Nat.zero_add]; exact mk_int) (atL_cons hat atL_nil)⟩)
  · refine W.done s Q E ?_ hQ
    rw [enumD_len] at hinv
    have : vs.toArray.size = ds.length := by simp [atL_len r]
    rw [this]; exact hinv
  · simp only [List.mem_cons, List.not_mem_nil, or_false] at hb
    rcases hb with rfl | rfl
    · exact st1.fresh (fresh _ (Nat.le_succ _))
    · exact st1.fresh (fresh _ (Nat.le_refl _))
  · intro h
    obtain ⟨o, e⟩ := S1.inn _ h
    simp only [List.mem_cons, List.not_mem_nil, or_false] at hb
    rcases hb with rfl | rfl
    · rw [fresh _ (Nat.le_succ _)] at e; cases e
    · rw [fresh _ (Nat.le_refl _)] at e; cases e
  · cases q : g1 b with
    | none => rfl
    | some z =>
      have e := S1.stay _ z q
      simp only [List.mem_cons, List.not_mem_nil, or_false] at hb
      rcases hb with rfl | rfl
      · rw [fresh _ (Nat.le_succ _)] at e; cases e
      · rw [fresh _ (Nat.le_refl _)] at e; cases e
end Mine
end

section
open PySem PySem.W PyProof.Rows PySem.Calls
set_option maxRecDepth 100000
namespace Mine
variable {Γ : Gl} {sc : Scope} {k : Nat} {σ σ1 σ2 σ3 : Ctx}

mutual
noncomputable def D.py : D → PyData
  | .none => .none
  | .bool b => .bool b
  | .int i => .int i
  | .str s => .str s
  | .tup l => .tuple (D.pyL l)
  | .list l => .list (D.pyL l)
noncomputable def D.pyL : List D → List PyData
  | [] => []
  | d :: ds => D.py d :: D.pyL ds
end
mutual
theorem At.reads {g : GM} {h : Heap} (st : ∀ a o, g a = some o → h.get? a = some o) : ∀ {d : D} {v : Value}, At g v d → ∃ as, Reads h v d.py as
  | .none, v, a => by cases at_none a; exact ⟨_, by unfold D.py; exact .none⟩
  | .bool b, v, a => by cases at_bool a; exact ⟨_, by unfold D.py; exact .bool b⟩
  | .int i, v, a => by obtain ⟨t, rfl⟩ := at_int a; exact ⟨_, by unfold D.py; exact .int i t⟩
  | .str i, v, a => by obtain ⟨t, rfl⟩ := at_str a; exact ⟨_, by unfold D.py; exact .str i t⟩
  | .tup l, v, a => by
    obtain ⟨ad, vs, n, rfl, e, r⟩ := at_tup a
    obtain ⟨as, ra⟩ := AtL.reads st r
    exact ⟨_, by unfold D.py; exact .tuple (st _ _ e) rfl rfl ra⟩
  | .list l, v, a => by
    obtain ⟨ad, vs, n, rfl, e, r⟩ := at_list a
    obtain ⟨as, ra⟩ := AtL.reads st r
    exact ⟨_, by unfold D.py; exact .list (st _ _ e) rfl rfl ra⟩
theorem AtL.reads {g : GM} {h : Heap} (st : ∀ a o, g a = some o → h.get? a = some o) : ∀ {ds : List D} {vs : List Value}, AtL g vs ds → ∃ as, ReadsAll h vs (D.pyL ds) as
  | [], vs, a => by rw [atL_nil_inv a]; exact ⟨_, by unfold D.pyL; exact .nil⟩
  | d :: ds, vs, a => by
    obtain ⟨v, r, rfl, a1, a2⟩ := atL_cons_inv a
    obtain ⟨as, ra⟩ := At.reads st a1
    obtain ⟨bs, rb⟩ := AtL.reads st a2
    exact ⟨_, by unfold D.pyL; exact .cons ra rb⟩
end
theorem Room.dep {A : Around} (R : Room A k) : A.units + 65 < cLine := by have := R.units; show A.units + 65 < 9900; omega
theorem CmpS.eq_d {a b : D} (ha : SeqAt.shaped a.py = true) (hb : SeqAt.shaped b.py = true) : CmpS Γ k .Eq a b (PyData.eqv a.py b.py) := by
  intro sc σ v1 v2 A env P g s Q R S ⟨h1, h2⟩ q
  obtain ⟨_, r1⟩ := At.reads S.stay h1
  obtain ⟨_, r2⟩ := At.reads S.stay h2
  exact eq_dataH r1 r2 ha hb (by have := R.dep; omega) (q _ _ _ _ _ Step.refl S rfl)
theorem CmpS.ne_d {a b : D} (ha : SeqAt.shaped a.py = true) (hb : SeqAt.shaped b.py = true) : CmpS Γ k .NotEq a b (!PyData.eqv a.py b.py) := by
  intro sc σ v1 v2 A env P g s Q R S ⟨h1, h2⟩ q
  obtain ⟨_, r1⟩ := At.reads S.stay h1
  obtain ⟨_, r2⟩ := At.reads S.stay h2
  exact ne_dataH r1 r2 ha hb (by have := R.dep; omega) (q _ _ _ _ _ Step.refl S rfl)
theorem CmpS.notIn {x : D} {l : List D} (ha : SeqAt.shaped (D.list l).py = true) (hb : SeqAt.shaped x.py = true) : CmpS Γ k .NotIn x (.list l) (!((D.pyL l).any fun y => PyData.eqv y x.py)) := by
  intro sc σ v1 v2 A env P g s Q R S ⟨h1, h2⟩ q
  obtain ⟨_, r1⟩ := At.reads S.stay h2
  obtain ⟨_, r2⟩ := At.reads S.stay h1
  unfold D.py at r1 ha
  exact SeqAt.notIn_list_reads r1 r2 (SeqAt.canLay_of_shaped ha) (SeqAt.canLay_of_shaped hb) (room_in_shaped hb R.dep) (q _ _ _ _ _ Step.refl S rfl)

theorem BinS.addL {a b : List D} (h : a.length + b.length ≤ 1000) : BinS Γ k .Add (.list a) (.list b) (.list (a ++ b)) := by
  intro sc σ v1 v2 A env P g s Q R S ⟨h1, h2⟩ q
  obtain ⟨ad, vs, n, rfl, e, r⟩ := at_list h1
  obtain ⟨ad', vs', n', rfl, e', r'⟩ := at_list h2
  refine PySem.P.add_list (S.stay _ _ e) (S.stay _ _ e') ?_ (by rw [List.size_toArray, List.size_toArray, atL_len r, atL_len r']; exact Nat.le_trans h (by decide +kernel))
  obtain ⟨S2, st2, e2⟩ := S.alloc (o := listObj (vs ++ vs') 0)
  have := q (.ref s.heap.objs.size) P _ _ s.toks st2 S2 (mk_list e2 (AtL.mono st2.grow (atL_append r r')))
  have e3 : vs.toArray ++ vs'.toArray = (vs ++ vs').toArray := by simp
  rw [e3]; exact this
theorem mulL_raw {l : Addr} {items : Array Value} {kk : Nat} {x : Int} {u : Tok} {Q : Value → Shared → Prop} {A : Around} {s : Shared} {E : Value → Shared → Prop} {prog : Program} {w : World}
    (hl : s.heap.get? l = some { cls := .type "list", dict := none, data := .seq items kk, slots := #[] })
    (hlo : -(2 ^ 63 : Int) ≤ x) (hhi : x < 2 ^ 63) (hsz : items.size * x.toNat ≤ 2 ^ 24)
    (h : Q (.ref s.heap.objs.size) { s with heap := s.heap.push { cls := .type "list", data := .seq (List.foldl (fun x1 x2 => x1 ++ x2) #[] (List.replicate (if items.isEmpty = true then 0 else x.toNat) items)) } }) :
    wpAny (model prog w) A (binaryOp .Mult (.ref l) (.int x u)) Q E s :=
  wpAny_binaryOp_repeat_ref (T := "list") (U := "int") (by decide) ⟨_, hl, rfl⟩ (fun s' => typeIs_int s' x u) noFill_list_mul F.fills_int_mul F.slot_int_rmul repeat_list F.slot_int_index.lookup
    (call_meets F.slot_int_rmul (typeIs_int s x u) F.entry_int_rmul (F.args_int_rmul_2 _ _) (int___rmul___int_list x u l items kk)
      ⟨hl, rfl, ⟨_, hl, rfl⟩, call_meets F.slot_list_mul ⟨_, hl, rfl⟩ F.entry_list_mul (F.args_list_mul_2 _ _)
        (AutoListH.list___mul___list_int_3 l items kk x u (by simp [Builtin.List.listFitsIndex]; omega) (by omega) (by simp [Builtin.List.listTooLong, sizeLine]; omega))
        ⟨hl, h⟩⟩)
theorem rep_val {v : Value} {n : Int} : List.foldl (fun x1 x2 => x1 ++ x2) #[] (List.replicate (if (#[v] : Array Value).isEmpty = true then 0 else n.toNat) #[v]) = (List.replicate n.toNat v).toArray := by
  have : (#[v] : Array Value).isEmpty = false := rfl
  rw [this, if_neg Bool.false_ne_true, listMul_foldl]
  simp
theorem atL_rep {g : GM} {v : Value} {d : D} (h : At g v d) : ∀ n, AtL g (List.replicate n v) (List.replicate n d)
  | 0 => atL_nil
  | n + 1 => atL_cons h (atL_rep h n)
theorem BinS.rep {d : D} {n : Int} (h : n ≤ 1000) (h0 : -1000 ≤ n) : BinS Γ k .Mult (.list [d]) (.int n) (.list (List.replicate n.toNat d)) := by
  intro sc σ v1 v2 A env P g s Q R S ⟨h1, h2⟩ q
  obtain ⟨ad, vs, m, rfl, e, r⟩ := at_list h1
  obtain ⟨t, rfl⟩ := at_int h2
  obtain ⟨v, rfl, a1⟩ := atL_one r
  refine mulL_raw (S.stay _ _ e) (by omega) (by omega) (by simp; omega) ?_
  obtain ⟨S2, st2, e2⟩ := S.alloc (o := listObj (List.replicate n.toNat v) 0)
  have := q (.ref s.heap.objs.size) P _ _ s.toks st2 S2 (mk_list e2 (AtL.mono st2.grow (atL_rep a1 _)))
  rw [rep_val]; exact this
theorem EvO.rep {l r : Expr} {pos : Pos} {d : D} {n : Int} (h1 : EvE Γ sc k l σ (.list [d]) σ1) (h2 : EvE Γ sc k r σ1 (.int n) σ2) (h : n ≤ 1000) (h0 : -1000 ≤ n) : EvO Γ sc k (.BinOp l .Mult r pos) σ (.list (List.replicate n.toNat d)) σ2 := by
  intro A env P g s Q R S q
  refine wpAny_BinOp (h1 A env P g s _ R S trivial fun v1 P1 g1 h1' t1 st1 S1 a1 => ?_)
  refine h2 A env P1 g1 _ _ R S1 trivial fun v2 P2 g2 h2' t2 st2 S2 a2 => ?_
  obtain ⟨ad, vs, m, rfl, e, r⟩ := at_list (a1.mono st2.grow)
  obtain ⟨t, rfl⟩ := at_int a2
  obtain ⟨v, rfl, a3⟩ := atL_one r
  refine mulL_raw (S2.stay _ _ e) (by omega) (by omega) (by simp; omega) ?_
  obtain ⟨S3, tm, n⟩ := S2.tmp (atL_rep a3 n.toNat)
  rw [rep_val]
  exact q h2'.objs.size P2 g2 _ t2 ((st1.trans st2).trans (Step.push _)) S3 tm ((st1.trans st2).fresh n)

theorem St.putO {P : List Addr} {g : GM} {env : Env} {h h' : Heap} {x : Str} {a : Addr} {o o' : OC} (S : St Γ sc σ P g env h) (hx : σ.lookup x = some (.own a o)) (hs : Heap.SameBut a h h')
    (hv : HasOC g h' a o') : St Γ sc (upd σ x (.own a o')) P g env h' ∧ Step P P g g h h' := by
  obtain ⟨m, os, B⟩ := S.body
  obtain ⟨v, l, rfl, la, _⟩ := B.names x _ hx
  have am := B.own_mem la
  refine ⟨S.same hs am hv.there ⟨m, os, B.ns.sameBut hs (Ne.symm (B.own_ne S.apart la)), B.prot, fun y hy => ?_, fun y av hy => ?_⟩, Step.of_same hs am hv.there⟩
  · obtain ⟨c, v0, h1, h2⟩ := B.cells y hy
    exact ⟨c, v0, h1, h2.sameBut hs (fun e => B.own_cell S.apart la h1 e.symm)⟩
  · have lk : ∀ {y v}, Loc sc env m h y v → Loc sc env m h' y v := by
      intro y v l
      rcases l with l | ⟨l, c, hc, hv⟩
      · exact .inl l
      · exact .inr ⟨l, c, hc, hv.sameBut hs (fun e => B.own_cell S.apart la hc e.symm)⟩
    rw [lookup_upd] at hy
    by_cases q : y = x
    · rw [if_pos q] at hy; cases hy
      subst q
      exact ⟨.ref a, lk l, rfl, la, hv⟩
    · rw [if_neg q] at hy
      obtain ⟨v0, l0, r0⟩ := B.names y av hy
      refine ⟨v0, lk l0, r0.kept GM.le.rfl' fun b hb o e => (hs.2 b fun w => q (nodup_lookup (B.os_nodup S.apart) hb (w ▸ la))).trans e⟩
theorem St.put {P : List Addr} {g : GM} {env : Env} {h h' : Heap} {x : Str} {a : Addr} {xs ys : List D} {vs : List Value} {n : Nat} (S : St Γ sc σ P g env h) (hx : σ.lookup x = some (.own a (.list xs))) (hs : Heap.SameBut a h h')
    (ho : h'.get? a = some (listObj vs n)) (hv : AtL g vs ys) : St Γ sc (upd σ x (.own a (.list ys))) P g env h' ∧ Step P P g g h h' :=
  S.putO hx hs (o' := .list ys) ⟨vs, n, ho, hv⟩

theorem mapSeq_list (vs : List Value) (n : Nat) (f : Array Value → Array Value) : ∃ n', Obj.mapSeq f (listObj vs n) = listObj (f vs.toArray).toList n' := ⟨_, by unfold listObj; rw [Array.toArray_toList]; rfl⟩

theorem own_at {P : List Addr} {g : GM} {env : Env} {h : Heap} (S : St Γ sc σ P g env h) {x : Str} {a : Addr} {xs : List D} (hx : σ.lookup x = some (.own a (.list xs))) : ∃ vs n, h.get? a = some (listObj vs n) ∧ AtL g vs xs := by
  obtain ⟨m, vs, n, _, _, h1, h2⟩ := own_list S hx
  exact ⟨vs, n, h1, h2⟩

section
variable {x : Str} {px apos pos : Pos} {a : Addr} {xs : List D}
theorem EvE.append {e : Expr} {d : D} (hx : σ.lookup x = some (.own a (.list xs))) (h : EvE Γ sc k e σ d σ1) (hx1 : σ1.lookup x = some (.own a (.list xs))) (hn : xs.length ≤ 1000) (hline : (apos.endLine == pos.line) = true := by with_unfolding_all rfl)
    (hs : ∀ env, starEach [e] env = [(false, eval e env)] := by intro _; with_unfolding_all rfl) (hbase : ∀ env, attributeBase (.Name x px) (Str.ofString "append") env (eval (.Name x px) env) = eval (.Name x px) env := by intro _; with_unfolding_all rfl) (hd : (x == ("__debug__" : Str)) = false := by decide +kernel) :
    EvE Γ sc k (.Call (.Attribute (.Name x px) (Str.ofString "append") apos) [e] [] pos) σ .none (upd σ1 x (.own a (.list (xs ++ [d])))) := by
  intro A env P g s Q R S _ q
  obtain ⟨m, vs, n, ns, l, ho, hvs⟩ := own_list S hx
  refine Call_method1 (hbase env) (hs env) hline (wpAny_Name (loadName_any S ns l ?_) hd)
  refine ⟨"list", "list.append", F.plainAttrs_list, F.slot_list_append, F.type_list_append, ⟨_, ho, rfl⟩, fun b e => ?_, PySem.P.append_list (h A env P g s _ R S trivial fun v P1 g1 h1 t1 st1 S1 a1 => ?_)⟩
  · cases e; exact ⟨_, ho, rfl⟩
  · obtain ⟨vs1, n1, ho1, hvs1⟩ := own_at S1 hx1
    refine ⟨vs1.toArray, n1, by rw [List.size_toArray, atL_len hvs1]; exact Nat.le_trans hn (by decide +kernel), ho1, ?_⟩
    obtain ⟨n', e'⟩ := mapSeq_list vs1 n1 (fun xs => xs.push v)
    have e2 : (h1.update a (Obj.mapSeq fun xs => xs.push v)).get? a = some (listObj (vs1 ++ [v]) n') := by
      rw [Heap.get?_update_self _ ho1 (by rfl), e']; simp
    obtain ⟨S2, st2⟩ := S1.put hx1 (Heap.SameBut.update ..) e2 (atL_append hvs1 (atL_cons a1 atL_nil))
    exact q .none P1 g1 _ t1 (st1.trans st2) S2 mk_none
theorem EvE.pop {ys : List D} {d : D} (hx : σ.lookup x = some (.own a (.list (ys ++ [d])))) (hn : ys.length ≤ 1000) (hline : (apos.endLine == pos.line) = true := by with_unfolding_all rfl)
    (hbase : ∀ env, attributeBase (.Name x px) (Str.ofString "pop") env (eval (.Name x px) env) = eval (.Name x px) env := by intro _; with_unfolding_all rfl) (hd : (x == ("__debug__" : Str)) = false := by decide +kernel) :
    EvE Γ sc k (.Call (.Attribute (.Name x px) (Str.ofString "pop") apos) [] [] pos) σ d (upd σ x (.own a (.list ys))) := by
  intro A env P g s Q R S _ q
  obtain ⟨m, vs, n, ns, l, ho, hvs⟩ := own_list S hx
  obtain ⟨v, hv, hat⟩ := atL_get (i := ys.length) hvs (d := d) (by simp)
  have hl := atL_len hvs
  rw [List.length_append, List.length_singleton] at hl
  refine Call_method0 (hbase env) hline (wpAny_Name (loadName_any S ns l ?_) hd)
  refine ⟨"list", "list.pop", F.plainAttrs_list, F.slot_list_pop, F.type_list_pop, ⟨_, ho, rfl⟩, fun b e => ?_, PySem.P.pop_list (y := v) ho (by have hv' := (List.getElem?_eq_some_iff.mp hv).2; simp [hl, hv']) ?_ (by rw [List.size_toArray, hl]; exact Nat.le_trans (Nat.succ_le_succ hn) (by decide +kernel))⟩
  · cases e; exact ⟨_, ho, rfl⟩
  · obtain ⟨n', e'⟩ := mapSeq_list vs n (fun xs => xs.eraseIdxIfInBounds (vs.toArray.size - 1))
    have e2 : (s.heap.update a (Obj.mapSeq fun xs => xs.eraseIdxIfInBounds (vs.toArray.size - 1))).get? a = some (listObj (vs.take ys.length) n') := by
      rw [Heap.get?_update_self _ ho (by rfl), e']
      congr 2
      have e4 : ys.length < vs.length := by omega
      rw [List.size_toArray, hl, Nat.add_sub_cancel, Array.eraseIdxIfInBounds, dif_pos (by simpa using e4)]
      simp only [List.eraseIdx_toArray]
      rw [List.eraseIdx_eq_take_drop_succ, List.drop_eq_nil_of_le (by omega), List.append_nil]
    obtain ⟨S2, st2⟩ := S.put hx (Heap.SameBut.update ..) e2 (by have := atL_take ys.length hvs; simpa using this)
    exact q v P g _ s.toks st2 S2 hat
theorem EvE.lenOwn {np : Pos} (hx : σ.lookup x = some (.own a (.list xs))) (hn : xs.length ≤ 1000) (hsc : sc.names.lookup (Str.ofString "len") = some .globalImplicit) (hd : (x == ("__debug__" : Str)) = false := by decide +kernel) :
    EvE Γ sc k (.Call (.Name (Str.ofString "len") np) [.Name x px] [] pos) σ (.int xs.length) σ := by
  intro A env P g s Q R S _ q
  refine wpAny_Call_ofName (EvE.builtin S hsc b_len.1 b_len.2.1 b_len.2.2 ?_ (by decide +kernel))
  obtain ⟨m, vs, n, ns, l, ho, hvs⟩ := own_list S hx
  refine PyProof.Rows.callWith_builtin1 (wpAny_items_cons (wpAny_Name (loadName_any S ns l (wpAny_items_nil ?_)) hd) rfl) rfl rfl
  have hl : s.heap.IsList a vs.toArray := ⟨_, ho, rfl, n, rfl⟩
  refine PyProof.Rows.len_list hl (by simp [atL_len hvs]; omega) ?_
  have := q (.int vs.length (s.toks + 1)) P g s.heap (s.toks + 1 + 1) Step.refl S (by rw [atL_len hvs]; exact mk_int)
  simpa using this
end
end Mine
end

section
open PySem PySem.W PyProof.Rows PySem.Calls
set_option maxRecDepth 100000
namespace Mine
variable {Γ : Gl} {sc : Scope} {k : Nat} {σ σ1 σ2 σ3 : Ctx}

section
variable {x : Str} {px apos pos : Pos} {a : Addr} {xs : List D}
theorem EvE.insert {e e' : Expr} {i : Int} {d : D} (hx : σ.lookup x = some (.own a (.list xs))) (h : EvE Γ sc k e σ (.int i) σ1) (h' : EvE Γ sc k e' σ1 d σ2) (hx1 : σ2.lookup x = some (.own a (.list xs))) (hn : xs.length ≤ 1000) (hi : 0 ≤ i) (hi' : i ≤ xs.length) (hline : (apos.endLine == pos.line) = true := by with_unfolding_all rfl)
    (hs : ∀ env, starEach [e, e'] env = [(false, eval e env), (false, eval e' env)] := by intro _; with_unfolding_all rfl) (hbase : ∀ env, attributeBase (.Name x px) (Str.ofString "insert") env (eval (.Name x px) env) = eval (.Name x px) env := by intro _; with_unfolding_all rfl) (hd : (x == ("__debug__" : Str)) = false := by decide +kernel) :
    EvE Γ sc k (.Call (.Attribute (.Name x px) (Str.ofString "insert") apos) [e, e'] [] pos) σ .none (upd σ2 x (.own a (.list (xs.take i.toNat ++ d :: xs.drop i.toNat)))) := by
  intro A env P g s Q R S _ q
  obtain ⟨m, vs, n, ns, l, ho, hvs⟩ := own_list S hx
  refine Call_method2 (hbase env) (hs env) hline (wpAny_Name (loadName_any S ns l ?_) hd)
  refine ⟨"list", "list.insert", F.plainAttrs_list, F.slot_list_insert, F.type_list_insert, ⟨_, ho, rfl⟩, fun b e => ?_, method_meets F.slot_list_insert F.entry_list_insert rfl (Calls.evalArgs_plain (Calls.spliced_cons (h A env P g s _ R S trivial fun v P1 g1 h1 t1 st1 S1 a1 => Calls.spliced_cons (h' A env P1 g1 _ _ R S1 trivial fun u P2 g2 h2 t2 st2 S2 a2 => Calls.spliced_nil ?_))))⟩
  · cases e; exact ⟨_, ho, rfl⟩
  · obtain ⟨t, rfl⟩ := at_int a1
    obtain ⟨vs1, n1, ho1, hvs1⟩ := own_at S2 hx1
    have hl := atL_len hvs1
    refine ⟨rfl, ⟨_, ho1, rfl⟩, F.args_list_insert_3 _ _ _, _, AutoListH.list_insert_list_int_val_1 a vs1.toArray n1 i t u (by simp [Builtin.List.listFitsIndex]; omega) (by rw [List.size_toArray, hl]; exact Nat.le_trans hn (by decide +kernel)), ho1, ?_⟩
    dsimp only
    have hk : ¬ i < 0 := by omega
    obtain ⟨n', e'⟩ := mapSeq_list vs1 n1 (fun xs => have k := if i < 0 then (i + ((xs.size : Nat) : Int)).toNat else min i.toNat xs.size; (xs.extract 0 k).push u ++ xs.extract k)
    have e2 : (h2.update a (Obj.mapSeq fun xs => have k := if i < 0 then (i + ((xs.size : Nat) : Int)).toNat else min i.toNat xs.size; (xs.extract 0 k).push u ++ xs.extract k)).get? a = some (listObj (vs1.take i.toNat ++ u :: vs1.drop i.toNat) n') := by
      rw [Heap.get?_update_self _ ho1 (by rfl), e']
      simp only [hk, if_false]
      have e3 : min i.toNat vs1.toArray.size = i.toNat := by simp; omega
      rw [e3]
      simp
      exact List.take_of_length_le (by simp)
    obtain ⟨S3, st3⟩ := S2.put hx1 (Heap.SameBut.update ..) e2 (atL_append (atL_take i.toNat hvs1) (atL_cons a2 (atL_drop i.toNat hvs1)))
    exact q .none P2 g2 _ t2 ((st1.trans st2).trans st3) S3 mk_none

theorem Ex1.setItem {e ix : Expr} {p' : Pos} {i : Int} {d : D} (h : EvE Γ sc k e σ d σ1) (hx : σ1.lookup x = some (.own a (.list xs))) (h' : EvE Γ sc k ix σ1 (.int i) σ2) (hx1 : σ2.lookup x = some (.own a (.list xs))) (hn : xs.length ≤ 1000) (hi : 0 ≤ i) (hi' : i < xs.length)
    (hs : ∀ env, swapsWith e (some (.Subscript (.Name x px) ix p')) pos.line env = pure false := by intro _; with_unfolding_all rfl) (hd : (x == ("__debug__" : Str)) = false := by decide +kernel) :
    Ex1 Γ sc k (.Assign [.Subscript (.Name x px) ix p'] e pos) σ (.to (upd σ2 x (.own a (.list (xs.set i.toNat d))))) := by
  intro A env P g s Q R S q
  refine wpAny_Assign_Subscript (h A env P g s _ R S trivial fun v P1 g1 h1 t1 st1 S1 a1 => ?_) (hs env)
  obtain ⟨m, vs, n, ns, l, ho, hvs⟩ := own_list S1 hx
  refine wpAny_Name (loadName_any S1 ns l ?_) hd
  refine h' A env P1 g1 _ _ R S1 trivial fun u P2 g2 h2 t2 st2 S2 a2 => ?_
  obtain ⟨t, rfl⟩ := at_int a2
  obtain ⟨vs1, n1, ho1, hvs1⟩ := own_at S2 hx1
  have hl := atL_len hvs1
  refine ki_setAt (s := { s with heap := h2, toks := t2 }) (items := vs1.toArray) (n := n1) ho1 hi (by omega) (by simp [hl]; omega) ?_
  obtain ⟨n', e'⟩ := mapSeq_list vs1 n1 (fun xs => xs.setIfInBounds i.toNat v)
  have e2 : (h2.update a (Obj.mapSeq (·.setIfInBounds i.toNat v))).get? a = some (listObj (vs1.set i.toNat v) n') := by
    rw [Heap.get?_update_self _ ho1 (by rfl), e']; simp
  have hset : AtL g2 (vs1.set i.toNat v) (xs.set i.toNat d) := by
    have := atL_append (atL_take i.toNat hvs1) (atL_cons (a1.mono st2.grow) (atL_drop (i.toNat + 1) hvs1))
    rw [List.set_eq_take_append_cons_drop, List.set_eq_take_append_cons_drop, if_pos (by omega), if_pos (by omega)]
    exact this
  obtain ⟨S3, st3⟩ := S2.put hx1 (Heap.SameBut.update ..) e2 hset
  exact q _ P2 g2 _ t2 rfl ((st1.trans st2).trans st3) S3

theorem nil_reads {h : Heap} {b : Addr} {n : Nat} (e : h.get? b = some (listObj [] n)) : Reads h (.ref b) (.list []) [b] := .list e rfl rfl .nil
theorem EvT.ownNe {pl : Pos} (hx : σ.lookup x = some (.own a (.list xs))) (hok : SeqAt.shaped (D.list xs).py = true) (hd : (x == ("__debug__" : Str)) = false := by decide +kernel) :
    EvT Γ sc k (.Compare (.Name x px) [.NotEq] [.List [] pl] pos) σ (!xs.isEmpty) σ := by
  intro A env P g s Q R S _ q
  obtain ⟨m, vs, n, ns, l, ho, hvs⟩ := own_list S hx
  refine wpAny_isTrue_Compare1 (wpAny_Name (loadName_any S ns l ?_) hd) (by with_unfolding_all rfl)
  refine wpAny_List (wpAny_items_nil ⟨by simp, ?_⟩)
  obtain ⟨as, ra⟩ := AtL.reads S.stay hvs
  have S2 : St Γ sc σ P g env (s.heap.push (listObj [] 0)) := S.kept fun a x e => Heap.get?_push_of_some _ e
  have r1 : Reads (s.heap.push (listObj [] 0)) (.ref a) (D.list xs).py (a :: as) := by
    unfold D.py
    exact .list (Heap.get?_push_of_some _ ho) rfl rfl (ReadsAll.keeps (fun a x e => Heap.get?_push_of_some _ e) ra)
  refine ne_dataH (s := { s with heap := s.heap.push (listObj [] 0) }) r1 (nil_reads (n := 0) (Heap.get?_push_size _ rfl)) hok (by rfl) (by have := R.dep; omega) ?_
  refine wpAny_truthy_bool (q _ P g _ s.toks (Step.push _) S2 ?_)
  unfold D.py
  cases xs <;> simp [PyData.eqv, D.pyL, PyData.eqvAll]
end

theorem own_dr {P : List Addr} {g : GM} {env : Env} {h : Heap} (S : St Γ sc σ P g env h) {x : Str} {a : Addr} {w : World} {gr mx : Int} (hx : σ.lookup x = some (.own a (.dr w gr mx))) :
    ∃ m, h.Ns env.locals m ∧ Loc sc env m h x (.ref a) ∧ IsDr w h a gr mx := by
  obtain ⟨m, os, B⟩ := S.body
  obtain ⟨v, l, rfl, la, r⟩ := B.names x _ hx
  exact ⟨m, B.ns, l, r⟩
theorem key_is {w : World} (x : Str) (t : Tok) : (strKind Γ.prog w).is x (.str x t) = true := strKind_is Γ.prog w x t

theorem dictOf_prog {p p' : Program} {w : World} {h : Heap} {a : Addr} {kvs : List (Str × Value)} (x : h.DictOf (strKind p w) a kvs) : h.DictOf (strKind p' w) a kvs := by
  obtain ⟨o, es, ep, ho, hc, hd, hk, hp, hn⟩ := x
  refine ⟨o, es, ep, ho, hc, hd, hk, ?_, hn⟩
  have : ∀ {es : List DictEntry} {kvs : List (Str × Value)}, Pairs (strKind p w) es kvs → Pairs (strKind p' w) es kvs := by
    intro es kvs x
    induction x with
    | nil => exact .nil
    | cons h1 h2 r ih => exact .cons h1 h2 ih
  exact this hp
section
variable {x : Str} {px pos : Pos} {a : Addr} {gr mx : Int}
theorem EvE.dget {key : Str} {kn : Nat} {kp : Pos} {i : Int} (hx : σ.lookup x = some (.own a (.dr Γ.w gr mx))) (hk : (key = Str.ofString "great" ∧ i = gr) ∨ (key = Str.ofString "mixed" ∧ i = mx)) (hd : (x == ("__debug__" : Str)) = false := by decide +kernel) :
    EvE Γ sc k (.Subscript (.Name x px) (.Constant (.str key) kn kp) pos) σ (.int i) σ := by
  intro A env P g s Q R S _ q
  obtain ⟨m, ns, l, p, t3, t4, hD⟩ := own_dr S hx
  refine Subscript_ (wpAny_Name (loadName_any S ns l ?_) hd)
  refine wpAny_Constant_str ?_
  have hD : s.heap.DictOf (strKind Γ.prog Γ.w) a [(Str.ofString "great", .int gr t3), (Str.ofString "mixed", .int mx t4)] := dictOf_prog hD
  have fin : ∀ t, valueAt [(Str.ofString "great", Value.int gr t3), (Str.ofString "mixed", Value.int mx t4)] key = some (.int i t) → wpAny (model Γ.prog Γ.w) A (getItem (.ref a) (.str key s.toks)) Q noE { s with toks := s.toks + 1 } := fun t hv =>
    wpAny_getItem_of (knd := strKind Γ.prog Γ.w) (key_is key _) hD.mapOf hv (q _ P g s.heap _ Step.refl S mk_int)
  rcases hk with ⟨rfl, rfl⟩ | ⟨rfl, rfl⟩
  · exact tail_any (hD.typeIs (s := { s with toks := s.toks + 1 })) slot_dict_getitem.lookup (fin t3 (by unfold valueAt; simp)) rfl
  · exact tail_any (hD.typeIs (s := { s with toks := s.toks + 1 })) slot_dict_getitem.lookup (fin t4 (by unfold valueAt; rw [List.find?_cons, List.find?_cons]; rfl)) rfl
end
end Mine
end

section
open PySem PySem.W PyProof.Rows PySem.Calls
set_option maxRecDepth 100000
namespace Mine
variable {Γ : Gl} {sc : Scope} {k : Nat} {σ σ1 σ2 σ3 : Ctx}

section
variable {x : Str} {px pos : Pos} {a : Addr} {gr mx : Int}
theorem dr_set {g : GM} {env : Env} {P : List Addr} {s : Shared} {A : Around} {E : Value → Shared → Prop} {key : Str} {i gr' mx' : Int} {t u : Tok} {Q : Unit → Shared → Prop} (S : St Γ sc σ P g env s.heap) (hx : σ.lookup x = some (.own a (.dr Γ.w gr mx)))
    (hk : (key = Str.ofString "great" ∧ gr' = i ∧ mx' = mx) ∨ (key = Str.ofString "mixed" ∧ gr' = gr ∧ mx' = i))
    (q : ∀ h' tk, Step P P g g s.heap h' → St Γ sc (upd σ x (.own a (.dr Γ.w gr' mx'))) P g env h' → Q () { s with heap := h', toks := tk }) :
    wpAny (model Γ.prog Γ.w) A (setItem (.ref a) (.str key u) (.int i t)) Q E s := by
  obtain ⟨m, ns, l, p, t3, t4, hD⟩ := own_dr S hx
  refine wpAny_setItem_pairs (knd := strKind Γ.prog Γ.w) (key_is key u) (dictOf_prog hD) (fun h' hD' hs => ?_) (by show (2 : Nat) ≤ sizeLine; decide +kernel)
  have fin : ∀ t3 t4, h'.DictOf (strKind Γ.prog Γ.w) a [(Str.ofString "great", .int gr' t3), (Str.ofString "mixed", .int mx' t4)] → Q () { s with heap := h', toks := s.toks + 1 } := fun t3 t4 hD2 => by
    obtain ⟨S2, st2⟩ := S.putO hx hs (o' := .dr Γ.w gr' mx') ⟨Γ.prog, t3, t4, hD2⟩
    exact q h' _ st2 S2
  have hne : Str.ofString "mixed" ≠ Str.ofString "great" := by decide +kernel
  rcases hk with ⟨rfl, rfl, rfl⟩ | ⟨rfl, rfl, rfl⟩
  · refine fin t t4 ?_
    unfold stored at hD'
    simpa [hne] using hD'
  · refine fin t3 t ?_
    unfold stored at hD'
    simpa [hne.symm] using hD'
theorem Ex1.dset {e : Expr} {key : Str} {kn : Nat} {kp p' : Pos} {i gr' mx' : Int} (h : EvE Γ sc k e σ (.int i) σ1) (hx : σ1.lookup x = some (.own a (.dr Γ.w gr mx)))
    (hk : (key = Str.ofString "great" ∧ gr' = i ∧ mx' = mx) ∨ (key = Str.ofString "mixed" ∧ gr' = gr ∧ mx' = i))
    (hs : ∀ env, swapsWith e (some (.Subscript (.Name x px) (.Constant (.str key) kn kp) p')) pos.line env = pure false := by intro _; with_unfolding_all rfl) (hd : (x == ("__debug__" : Str)) = false := by decide +kernel) :
    Ex1 Γ sc k (.Assign [.Subscript (.Name x px) (.Constant (.str key) kn kp) p'] e pos) σ (.to (upd σ1 x (.own a (.dr Γ.w gr' mx')))) := by
  intro A env P g s Q R S q
  refine wpAny_Assign_Subscript (h A env P g s _ R S trivial fun v P1 g1 h1 t1 st1 S1 a1 => ?_) (hs env)
  obtain ⟨t, rfl⟩ := at_int a1
  obtain ⟨m, ns, l, _⟩ := own_dr S1 hx
  refine wpAny_Name (loadName_any S1 ns l ?_) hd
  refine wpAny_Constant_str ?_
  exact dr_set (s := { s with heap := h1, toks := t1 + 1 }) S1 hx hk fun h' tk st2 S2 => q _ P1 g1 h' tk rfl (st1.trans st2) S2
theorem AsgD.dset {key : Str} {kn : Nat} {kp : Pos} {i gr' mx' : Int} (hx : σ.lookup x = some (.own a (.dr Γ.w gr mx)))
    (hk : (key = Str.ofString "great" ∧ gr' = i ∧ mx' = mx) ∨ (key = Str.ofString "mixed" ∧ gr' = gr ∧ mx' = i)) (hd : (x == ("__debug__" : Str)) = false := by decide +kernel) :
    AsgD Γ sc k (.Subscript (.Name x px) (.Constant (.str key) kn kp) pos) σ (.int i) (upd σ x (.own a (.dr Γ.w gr' mx'))) := by
  intro v A env P g s Q R S av q
  obtain ⟨t, rfl⟩ := at_int av
  dsimp only
  rw [assign_Subscript]
  obtain ⟨m, ns, l, _⟩ := own_dr S hx
  refine wpAny_bind (wpAny_holding (wpAny_Name (loadName_any S ns l ?_) hd))
  refine wpAny_bind (wpAny_holding (wpAny_Constant_str ?_))
  refine wpAny_bind (wpAny_standAt (wpAny_bind (wpAny_holding ?_)))
  refine dr_set (s := { s with toks := s.toks + 1 }) S hx hk fun h' tk st2 S2 => ?_
  exact wpAny_release (q () P g h' tk st2 S2 trivial)
theorem EvO.dict {e e' : Expr} {k1 k2 : Nat} {p1 p2 : Pos} (h1 : EvE Γ sc k e σ (.int gr) σ1) (h2 : EvE Γ sc k e' σ1 (.int mx) σ2) :
    EvO Γ sc k (.Dict [some (.Constant (.str (Str.ofString "great")) k1 p1), some (.Constant (.str (Str.ofString "mixed")) k2 p2)] [e, e'] pos) σ (.dr Γ.w gr mx) σ2 := by
  intro A env P g s Q R S q
  have fresh : s.heap.get? s.heap.objs.size = none := by
    cases q : s.heap.get? s.heap.objs.size with
    | none => rfl
    | some z => exact absurd (Heap.lt_size q) (Nat.lt_irrefl _)
  refine wpAny_Dict_walk (knd := strKind Γ.prog Γ.w) rfl rfl (by simp) (by simp) ?_
  have S0 : St Γ sc σ P g env (s.heap.push { cls := .type "dict", data := .dict #[] }) := S.kept fun a x e => Heap.get?_push_of_some _ e
  have hD0 : (s.heap.push { cls := .type "dict", data := .dict #[] }).DictOf (strKind Γ.prog Γ.w) s.heap.objs.size [] := Heap.DictOf.new _
  have hoff : s.heap.objs.size ∉ P := fun hp => by obtain ⟨o, e⟩ := S.inn _ hp; rw [fresh] at e; cases e
  have hgn : g s.heap.objs.size = none := by
    cases q : g s.heap.objs.size with
    | none => rfl
    | some z => have := S.stay _ z q; rw [fresh] at this; cases this
  unfold pairTrees pairTrees pairTrees evalPairs evalPairs evalPairs
  refine wpAny_bind (wpAny_Constant_str (wpAny_bind (wpAny_holding (wpAny_bind ?_))))
  refine h1 A env P g { s with heap := s.heap.push { cls := .type "dict", data := .dict #[] }, toks := s.toks + 1 } _ R S0 trivial fun v1 P1 g1 h1' t1 st1 S1 a1 => ?_
  have st1 : Step P P1 g g1 (s.heap.push { cls := .type "dict", data := .dict #[] }) h1' := st1
  obtain ⟨u1, rfl⟩ := at_int a1
  refine wpAny_bind (wpAny_standAt (wpAny_pure (wpAny_bind (wpAny_holding (wpAny_bind (wpAny_Constant_str (wpAny_bind (wpAny_holding (wpAny_bind ?_)))))))))
  refine h2 A env P1 g1 { s with heap := h1', toks := t1 + 1 } _ R S1 trivial fun v2 P2 g2 h2' t2 st2 S2 a2 => ?_
  have st2 : Step P1 P2 g1 g2 h1' h2' := st2
  obtain ⟨u2, rfl⟩ := at_int a2
  refine wpAny_bind (wpAny_standAt (wpAny_pure (wpAny_bind (wpAny_holding (wpAny_pure (wpAny_pure (wpAny_pure ?_)))))))
  have st12 := st1.trans st2
  obtain ⟨o, es, ep, ho, hr⟩ := hD0
  obtain ⟨k1', k2'⟩ := st12.keep _ o ho hoff
  have tmp0 : g2 s.heap.objs.size = none := by
    cases q : g2 s.heap.objs.size with
    | none => rfl
    | some z =>
      rcases st12.new _ z q with h1 | h1 | h1
      · rw [hgn] at h1; cases h1
      · exact absurd h1 hoff
      · rw [ho] at h1; cases h1
  refine ⟨[(Str.ofString "great", .int gr u1), (Str.ofString "mixed", .int mx u2)], ⟨key_is _ _, rfl, key_is _ _, rfl, trivial⟩, ⟨o, es, ep, k1', hr⟩, fun h' hD' hs => ?_⟩
  have hs : Heap.SameBut s.heap.objs.size h2' h' := hs
  have hm : merged [] [(Str.ofString "great", Value.int gr u1), (Str.ofString "mixed", Value.int mx u2)] = [(Str.ofString "great", .int gr u1), (Str.ofString "mixed", .int mx u2)] := by
    have hne : Str.ofString "great" ≠ Str.ofString "mixed" := by decide +kernel
    unfold merged
    simp [stored, hne]
  rw [hm] at hD'
  have kk : ∀ b o, b ∉ [s.heap.objs.size] → h2'.get? b = some o → h'.get? b = some o := fun b o nb e => (hs.2 b fun q => nb (by rw [q]; exact .head _)).trans e
  refine q s.heap.objs.size P2 g2 h' _ (((Step.push (P := P) (g := g) (h := s.heap) _).trans st12).but (wr := [s.heap.objs.size]) (fun b hb => by rw [List.mem_singleton.mp hb]; exact fresh) kk)
    (S2.but (fun b hb => by rw [List.mem_singleton.mp hb]; exact k2') (fun b hb => by rw [List.mem_singleton.mp hb]; exact tmp0) kk) ⟨⟨Γ.prog, u1, u2, hD'⟩, k2', tmp0⟩ fresh
end

theorem b_str : IsB (Str.ofString "str") (.type "str") := by unfold IsB; decide +kernel
theorem EvE.isStr {e : Expr} {np np' pos : Pos} {d : D} {c : Bool} (h : EvE Γ sc k e σ d σ1) (hd : (∃ s, d = .str s ∧ c = true) ∨ (∃ l, d = .tup l ∧ c = false)) (hx : sc.names.lookup (Str.ofString "isinstance") = some .globalImplicit) (hx' : sc.names.lookup (Str.ofString "str") = some .globalImplicit)
    (he : ∀ env, starEach [e, .Name (Str.ofString "str") np'] env = (false, eval e env) :: starEach [.Name (Str.ofString "str") np'] env := by intro _; with_unfolding_all rfl) :
    EvE Γ sc k (.Call (.Name (Str.ofString "isinstance") np) [e, .Name (Str.ofString "str") np'] [] pos) σ (.bool c) σ1 := by
  intro A env P g s Q R S _ q
  refine wpAny_Call_ofName (EvE.builtin S hx b_isinstance.1 b_isinstance.2.1 b_isinstance.2.2 ?_ (by decide +kernel))
  refine PyProof.Rows.callWith_builtin1 (wpAny_items_cons (h A env P g s _ R S trivial fun v P1 g1 h1' t1 st1 S1 a1 => wpAny_items_cons (EvE.builtin S1 hx' b_str.1 b_str.2.1 b_str.2.2 (wpAny_items_nil ?_) (by decide +kernel)) rfl) (he env)) (he env) rfl
  rcases hd with ⟨x, rfl, rfl⟩ | ⟨l, rfl, rfl⟩
  · obtain ⟨t, rfl⟩ := at_str a1
    exact IsiPair.str_str (q _ P1 g1 h1' t1 st1 S1 mk_bool)
  · obtain ⟨ad, vs, n, rfl, ga, r⟩ := at_tup a1
    exact IsiPair.tuple_str (s := { s with heap := h1', toks := t1 }) (S1.stay _ _ ga) rfl (q _ P1 g1 h1' _ st1 S1 mk_bool)
end Mine
end

section
open PySem PySem.W PyProof.Rows PySem.Calls
set_option maxRecDepth 100000
namespace Mine
variable {Γ : Gl} {sc : Scope} {k : Nat} {σ σ1 σ2 σ3 : Ctx}

noncomputable def CallD (Γ : Gl) (k : Nat) (n : Str) (gr mx : Int) (ds : List D) (d : D) (gr' mx' : Int) : Prop :=
  GOk Γ.mg Γ.mb Γ.h0 → ∃ f o fd, Γ.mg n = some (.ref f) ∧ Γ.h0.get? f = some o ∧ o.data = .func fd ∧
    ∀ (A : Around) (g : GM) (s : Shared) (a : Addr) (vs : List Value) (Q : Value → Shared → Prop), Room A k → (∀ a o, Γ.h0.get? a = some o → g a = some o) → (∀ a o, g a = some o → s.heap.get? a = some o) → IsDr Γ.w s.heap a gr mx → g a = none → AtL g vs ds →
      (∀ v g' h' tk, Step [a] [a] g g' s.heap h' → (∀ a o, g' a = some o → h'.get? a = some o) → At g' v d → IsDr Γ.w h' a gr' mx' → g' a = none → Q v { s with heap := h', toks := tk }) →
      wpAny (model Γ.prog Γ.w) A (call (.ref f) (.ref a :: vs)) Q noE s
noncomputable def CallO (Γ : Gl) (k : Nat) (n : Str) (ds : List D) (oc : OC) : Prop :=
  GOk Γ.mg Γ.mb Γ.h0 → ∃ f o fd, Γ.mg n = some (.ref f) ∧ Γ.h0.get? f = some o ∧ o.data = .func fd ∧
    ∀ (A : Around) (g : GM) (s : Shared) (vs : List Value) (Q : Value → Shared → Prop), Room A k → (∀ a o, Γ.h0.get? a = some o → g a = some o) → (∀ a o, g a = some o → s.heap.get? a = some o) → AtL g vs ds →
      (∀ a g' h' tk, Step [] [] g g' s.heap h' → (∀ a o, g' a = some o → h'.get? a = some o) → HasOC g' h' a oc → g' a = none → s.heap.get? a = none → Q (.ref a) { s with heap := h', toks := tk }) →
      wpAny (model Γ.prog Γ.w) A (call (.ref f) vs) Q noE s


theorem CallD.of {n : Str} {a : Arguments} {b : List Stmt} {n0 : Str} {ns : List Str} {ds : List D} {d : D} {gr mx gr' mx' : Int} (hf : IsFn n a b sc) (hl : ns.length = ds.length)
    (hb : ∀ pm code doc vs, vs.length = (n0 :: ns).length → bindArgs (docDef n a b sc pm code doc) ⟨vs, []⟩ = pure ((n0 :: ns).zip vs))
    (hN : (n0 :: ns).Nodup) (hst : ∀ x ∈ n0 :: ns, Stored sc x)
    (hbody : ∀ ad, ExS Γ sc k b ((n0, .own ad (.dr Γ.w gr mx)) :: ns.zip (ds.map AV.d)) (.retN d fun σ' => σ'.lookup n0 = some (.own ad (.dr Γ.w gr' mx')))) (hsn : (sc.names.map (·.1)).Nodup := by decide +kernel)
    (hk : sc.kind = .function := by with_unfolding_all rfl) (hco : sc.isCoroutine = false := by with_unfolding_all rfl) (hgen : sc.isGenerator = false := by with_unfolding_all rfl) : CallD Γ (k + 1) n gr mx ds d gr' mx' := by
  intro G
  obtain ⟨f, of, pm, code, doc, hm, ho, hdat, hcode⟩ := G.fn n a b sc hf
  refine ⟨f, of, _, hm, ho, hdat, fun A g s ad vs Q R base stay hdr hga hvs q => ?_⟩
  have b0 : ∀ a o, Γ.h0.get? a = some o → s.heap.get? a = some o := fun a o e => stay a o (base a o e)
  have hlen : vs.length = ns.length := by rw [atL_len hvs, hl]
  have cellSome : ∀ m x, sc.names.lookup x = some .cell → ((cellsFrom m sc.names []).lookup x).isSome = true := fun m x hx => cellsFrom_some _ _ _ (.inl hx)
  have adlive : ∃ o, s.heap.get? ad = some o := let ⟨_, _, _, o, _, _, e, _⟩ := hdr; ⟨o, e⟩
  refine wpAny_call (codeAny_call_cells (binds := (n0 :: ns).zip (.ref ad :: vs)) (by have := R.depth; simp only [recursionLimit]; omega) (b0 _ _ ho) hdat (G.nolimit.keeps b0) (hcode.keeps b0) rfl (hb pm code doc (.ref ad :: vs) (by simp [hlen])) rfl (fun x hx => ?_) (fun s₁ X => ?_) hco hgen hk)
  · have hx1 : x.1 ∈ n0 :: ns := (List.of_mem_zip hx).1
    rcases hst x.1 hx1 with h1 | h1
    · exact .inl h1
    · exact .inr ⟨h1, cellSome _ _ h1⟩
  · obtain ⟨h1, tk1, e1⟩ := X.toInCall.same
    subst e1
    have hfst : (((n0 :: ns).zip (Value.ref ad :: vs)).map (·.1)) = n0 :: ns := List.map_fst_zip (by simp [hlen])
    let env : Env := callEnvC (docDef n a b sc pm code doc) s.heap.objs.size f
    have old : ∀ a o, s.heap.get? a = some o → h1.get? a = some o := X.toInCall.keep
    have hL : s.heap.objs.size ≤ env.locals := X.toInCall.fresh
    have fresh : ∀ p ∈ env.locals :: env.cells.map (·.2), s.heap.get? p = none := fun p hp => by
      have : s.heap.objs.size ≤ p := by
        rcases List.mem_cons.mp hp with rfl | hp
        · exact hL
        · obtain ⟨⟨y, c⟩, hc, rfl⟩ := List.mem_map.mp hp
          exact Nat.le_of_lt (Nat.lt_of_le_of_lt hL (X.above y c hc))
      cases q : s.heap.get? p with
      | none => rfl
      | some z => exact absurd (Heap.lt_size q) (Nat.not_lt.mpr this)
    have memP : ∀ p, p ∈ env.locals :: (env.cells.map (·.2) ++ [((n0, ad) : Str × Addr)].map (·.2)) → p ∈ env.locals :: env.cells.map (·.2) ∨ p = ad := fun p hp => by
      simp only [List.mem_cons, List.mem_append, List.map_cons, List.map_nil, List.not_mem_nil, or_false] at hp ⊢
      rcases hp with h | h | h
      · exact .inl (.inl h)
      · exact .inl (.inr h)
      · exact .inr h
    have Cell : ∀ x, sc.names.lookup x = some .cell → ∃ c, env.cells.lookup x = some c ∧ h1.IsCell c (bindC env.kindOf ((n0 :: ns).zip (.ref ad :: vs)) (fun _ => none) x) := fun x hx => by
      obtain ⟨c, hc⟩ := Option.isSome_iff_exists.mp (cellSome (s.heap.objs.size + 1) x hx)
      exact ⟨c, hc, X.cell x c hc⟩
    have locOf : ∀ x v, (x, v) ∈ (n0 :: ns).zip (Value.ref ad :: vs) → Loc sc env (bindL env.kindOf ((n0 :: ns).zip (.ref ad :: vs)) fun _ => none) h1 x v := fun x v hm => by
      rcases hst x (List.of_mem_zip hm).1 with h2 | h2
      · exact .inl ⟨h2, bindL_get env.kindOf _ _ x v (by rw [hfst]; exact hN) hm h2⟩
      · obtain ⟨c, hc, hv⟩ := Cell x h2
        rw [bindC_get env.kindOf _ _ x v (by rw [hfst]; exact hN) hm h2] at hv
        exact .inr ⟨h2, c, hc, hv⟩
    have hdr1 : IsDr Γ.w h1 ad gr mx := (HasOC.kept (g := g) (g' := g) GM.le.rfl' (fun o e => old ad o e) (o := .dr Γ.w gr mx) hdr)
    have B : StB sc ((n0, .own ad (.dr Γ.w gr mx)) :: ns.zip (ds.map AV.d)) (env.locals :: (env.cells.map (·.2) ++ [((n0, ad) : Str × Addr)].map (·.2))) g env h1 (bindL env.kindOf ((n0 :: ns).zip (.ref ad :: vs)) fun _ => none) [(n0, ad)] := by
      refine ⟨X.toInCall.ns, rfl, fun x hx => ?_, fun x av hx => ?_⟩
      · obtain ⟨c, hc, hv⟩ := Cell x hx; exact ⟨c, _, hc, hv⟩
      · rw [List.lookup_cons] at hx
        by_cases hx0 : x = n0
        · subst hx0
          simp only [beq_self_eq_true] at hx
          cases hx
          exact ⟨.ref ad, locOf x _ (by rw [List.zip_cons_cons]; exact .head _), rfl, by simp, hdr1⟩
        · rw [beq_eq_false_iff_ne.mpr hx0] at hx
          obtain ⟨v, d', rfl, ha, hm⟩ := zip_names hl hvs hx
          exact ⟨v, locOf x v (by rw [List.zip_cons_cons]; exact .tail _ hm), ha⟩
    have S : St Γ sc ((n0, .own ad (.dr Γ.w gr mx)) :: ns.zip (ds.map AV.d)) (env.locals :: (env.cells.map (·.2) ++ [((n0, ad) : Str × Addr)].map (·.2))) g env h1 := by
      refine { scope := rfl, kind := hk, globals := rfl, builtins := rfl, ok := G, base := base, stay := fun a o e => old a o (stay a o e), off := fun p hp => ?_, inn := fun p hp => ?_, apart := ?_, body := ⟨_, _, B⟩ }
      · rcases memP p hp with hp | rfl
        · cases q : g p with
          | none => rfl
          | some z => have := stay p z q; rw [fresh p hp] at this; cases this
        · exact hga
      · rcases memP p hp with hp | rfl
        · rcases List.mem_cons.mp hp with rfl | hp
          · exact ns_there X.toInCall.ns
          · obtain ⟨⟨y, c⟩, hc, rfl⟩ := List.mem_map.mp hp
            have hc2 : env.cells.lookup y = some c := lookup_of_mem (cellsFrom_names _ _ [] (fun _ _ h => nomatch h) hsn .nil) hc
            exact Heap.IsCell.there (X.cell y c hc2)
        · obtain ⟨o, e⟩ := adlive; exact ⟨o, old _ _ e⟩
      · have hbase : (env.locals :: env.cells.map (·.2)).Nodup := by
          refine List.nodup_cons.mpr ⟨fun hp => ?_, List.pairwise_map.mpr X.apart⟩
          obtain ⟨⟨y, c⟩, hc, e⟩ := List.mem_map.mp hp
          exact absurd (X.above y c hc) (by rw [show c = env.locals from e]; exact Nat.lt_irrefl _)
        have hadn : ad ∉ env.locals :: env.cells.map (·.2) := fun h => by obtain ⟨o, e⟩ := adlive; rw [fresh ad h] at e; cases e
        have := nodup_ins (o := ([] : List Addr)) (c := env.cells.map (·.2)) (l := env.locals) (a := ad) (by simpa using hbase) (by simpa using hadn)
        simpa using this
    refine wpAny_mono (hbody ad (A.deeper env) env _ g { s with heap := h1, toks := tk1 } (fun f s' => Q (match f with | .ret v => v | _ => .none) s') ⟨R.handled, by have := R.depth; show A.depth + 1 + k < 890; omega, by have := R.units; show A.units + 3 + 10 * k < 9800; omega⟩ S ?_) (fun f s' hq => hq) (fun _ _ e => e.elim)
    intro σ' v P' g' h' tk hN' st S' ha
    have st : Step (env.locals :: (env.cells.map (·.2) ++ [((n0, ad) : Str × Addr)].map (·.2))) P' g g' h1 h' := st
    obtain ⟨m', os', B'⟩ := S'.body
    obtain ⟨v', l', rfl, la', hr'⟩ := B'.names n0 _ hN'
    have hg' : g' ad = none := S'.off ad (B'.own_mem la')
    refine q v g' h' tk ⟨fun b o e n => ?_, st.grow, fun b o e => ?_, fun b o e => st.more b o (old b o e)⟩ S'.stay ha hr' hg'
    · have hp : b ∉ env.locals :: (env.cells.map (·.2) ++ [((n0, ad) : Str × Addr)].map (·.2)) := fun hp => by
        rcases memP b hp with hp | rfl
        · rw [fresh b hp] at e; cases e
        · exact n (.head _)
      exact ⟨(st.keep b o (old b o e) hp).1, n⟩
    · rcases st.new b o e with h2 | h2 | h2
      · exact .inl h2
      · rcases memP b h2 with h2 | rfl
        · exact .inr (.inr (fresh b h2))
        · exact .inr (.inl (.head _))
      · refine .inr (.inr ?_)
        cases q : s.heap.get? b with
        | none => rfl
        | some z => rw [old b z q] at h2; cases h2

theorem CallO.of {n : Str} {a : Arguments} {b : List Stmt} {ns : List Str} {ds : List D} {oc : OC} (hf : IsFn n a b sc) (hl : ns.length = ds.length)
    (hb : ∀ pm code doc vs, vs.length = ns.length → bindArgs (docDef n a b sc pm code doc) ⟨vs, []⟩ = pure (ns.zip vs))
    (hN : ns.Nodup) (hst : ∀ x ∈ ns, Stored sc x) (hbody : ExS Γ sc k b (ns.zip (ds.map AV.d)) (.retO oc)) (hsn : (sc.names.map (·.1)).Nodup := by decide +kernel)
    (hk : sc.kind = .function := by with_unfolding_all rfl) (hco : sc.isCoroutine = false := by with_unfolding_all rfl) (hgen : sc.isGenerator = false := by with_unfolding_all rfl) : CallO Γ (k + 1) n ds oc := by
  intro G
  obtain ⟨f, of, pm, code, doc, hm, ho, hdat, hcode⟩ := G.fn n a b sc hf
  refine ⟨f, of, _, hm, ho, hdat, fun A g s vs Q R base stay hvs q => ?_⟩
  have b0 : ∀ a o, Γ.h0.get? a = some o → s.heap.get? a = some o := fun a o e => stay a o (base a o e)
  have hlen : vs.length = ns.length := by rw [atL_len hvs, hl]
  have cellSome : ∀ m x, sc.names.lookup x = some .cell → ((cellsFrom m sc.names []).lookup x).isSome = true := fun m x hx => cellsFrom_some _ _ _ (.inl hx)
  refine wpAny_call (codeAny_call_cells (binds := ns.zip vs) (by have := R.depth; simp only [recursionLimit]; omega) (b0 _ _ ho) hdat (G.nolimit.keeps b0) (hcode.keeps b0) rfl (hb pm code doc vs hlen) rfl (fun x hx => ?_) (fun s₁ X => ?_) hco hgen hk)
  · have hx1 : x.1 ∈ ns := (List.of_mem_zip hx).1
    rcases hst x.1 hx1 with h1 | h1
    · exact .inl h1
    · exact .inr ⟨h1, cellSome _ _ h1⟩
  · obtain ⟨h1, tk1, e1⟩ := X.toInCall.same
    subst e1
    have hfst : ((ns.zip vs).map (·.1)) = ns := List.map_fst_zip (by omega)
    let env : Env := callEnvC (docDef n a b sc pm code doc) s.heap.objs.size f
    have old : ∀ a o, s.heap.get? a = some o → h1.get? a = some o := X.toInCall.keep
    have hL : s.heap.objs.size ≤ env.locals := X.toInCall.fresh
    have fresh : ∀ p ∈ env.locals :: (env.cells.map (·.2) ++ ([] : List (Str × Addr)).map (·.2)), s.heap.get? p = none := fun p hp => by
      have : s.heap.objs.size ≤ p := by
        rcases List.mem_cons.mp hp with rfl | hp
        · exact hL
        · simp only [List.map_nil, List.append_nil] at hp
          obtain ⟨⟨y, c⟩, hc, rfl⟩ := List.mem_map.mp hp
          exact Nat.le_of_lt (Nat.lt_of_le_of_lt hL (X.above y c hc))
      cases q : s.heap.get? p with
      | none => rfl
      | some z => exact absurd (Heap.lt_size q) (Nat.not_lt.mpr this)
    have Cell : ∀ x, sc.names.lookup x = some .cell → ∃ c, env.cells.lookup x = some c ∧ h1.IsCell c (bindC env.kindOf (ns.zip vs) (fun _ => none) x) := fun x hx => by
      obtain ⟨c, hc⟩ := Option.isSome_iff_exists.mp (cellSome (s.heap.objs.size + 1) x hx)
      exact ⟨c, hc, X.cell x c hc⟩
    have B : StB sc (ns.zip (ds.map AV.d)) (env.locals :: (env.cells.map (·.2) ++ ([] : List (Str × Addr)).map (·.2))) g env h1 (bindL env.kindOf (ns.zip vs) fun _ => none) [] := by
      refine ⟨X.toInCall.ns, rfl, fun x hx => ?_, fun x av hx => ?_⟩
      · obtain ⟨c, hc, hv⟩ := Cell x hx; exact ⟨c, _, hc, hv⟩
      · obtain ⟨v, d', rfl, ha, hm⟩ := zip_names hl hvs hx
        refine ⟨v, ?_, ha⟩
        rcases hst x (List.of_mem_zip hm).1 with h2 | h2
        · exact .inl ⟨h2, bindL_get env.kindOf _ _ x v (by rw [hfst]; exact hN) hm h2⟩
        · obtain ⟨c, hc, hv⟩ := Cell x h2
          rw [bindC_get env.kindOf _ _ x v (by rw [hfst]; exact hN) hm h2] at hv
          exact .inr ⟨h2, c, hc, hv⟩
    have S : St Γ sc (ns.zip (ds.map AV.d)) (env.locals :: (env.cells.map (·.2) ++ ([] : List (Str × Addr)).map (·.2))) g env h1 := by
      refine { scope := rfl, kind := hk, globals := rfl, builtins := rfl, ok := G, base := base, stay := fun a o e => old a o (stay a o e), off := fun p hp => ?_, inn := fun p hp => ?_, apart := ?_, body := ⟨_, _, B⟩ }
      · cases q : g p with
        | none => rfl
        | some z => have := stay p z q; rw [fresh p hp] at this; cases this
      · rcases List.mem_cons.mp hp with rfl | hp
        · exact ns_there X.toInCall.ns
        · simp only [List.map_nil, List.append_nil] at hp
          obtain ⟨⟨y, c⟩, hc, rfl⟩ := List.mem_map.mp hp
          have hc2 : env.cells.lookup y = some c := lookup_of_mem (cellsFrom_names _ _ [] (fun _ _ h => nomatch h) hsn .nil) hc
          exact Heap.IsCell.there (X.cell y c hc2)
      · simp only [List.map_nil, List.append_nil]
        refine List.nodup_cons.mpr ⟨fun hp => ?_, List.pairwise_map.mpr X.apart⟩
        obtain ⟨⟨y, c⟩, hc, e⟩ := List.mem_map.mp hp
        exact absurd (X.above y c hc) (by rw [show c = env.locals from e]; exact Nat.lt_irrefl _)
    refine wpAny_mono (hbody (A.deeper env) env _ g { s with heap := h1, toks := tk1 } (fun f s' => Q (match f with | .ret v => v | _ => .none) s') ⟨R.handled, by have := R.depth; show A.depth + 1 + k < 890; omega, by have := R.units; show A.units + 3 + 10 * k < 9800; omega⟩ S ?_) (fun f s' hq => hq) (fun _ _ e => e.elim)
    intro ar P' g' h' tk st hs hoc hga hn
    have st : Step (env.locals :: (env.cells.map (·.2) ++ ([] : List (Str × Addr)).map (·.2))) P' g g' h1 h' := st
    refine q ar g' h' tk ⟨fun a o e n => ?_, st.grow, fun a o e => ?_, fun a o e => st.more a o (old a o e)⟩ hs hoc hga ?_
    · have hp : a ∉ env.locals :: (env.cells.map (·.2) ++ ([] : List (Str × Addr)).map (·.2)) := fun hp => by rw [fresh a hp] at e; cases e
      exact ⟨(st.keep a o (old a o e) hp).1, fun h => nomatch h⟩
    · rcases st.new a o e with h2 | h2 | h2
      · exact .inl h2
      · exact .inr (.inr (fresh a h2))
      · refine .inr (.inr ?_)
        cases q : s.heap.get? a with
        | none => rfl
        | some z => rw [old a z q] at h2; cases h2
    · cases q : s.heap.get? ar with
      | none => rfl
      | some z => have hn : h1.get? ar = none := hn; rw [old ar z q] at hn; cases hn

theorem EvE.callD {n x : Str} {es : List Expr} {np px pos : Pos} {ds : List D} {d : D} {a : Addr} {gr mx gr' mx' : Int} (hx : σ.lookup x = some (.own a (.dr Γ.w gr mx))) (h1 : EvL Γ sc k es σ ds σ1) (hx1 : σ1.lookup x = some (.own a (.dr Γ.w gr mx)))
    (h2 : CallD Γ k n gr mx ds d gr' mx') (hn : sc.names.lookup n = some .globalImplicit)
    (he : ∀ env, starEach (.Name x px :: es) env = (false, eval (.Name x px) env) :: starEach es env := by intro _; with_unfolding_all rfl) (hp : ∀ env, (backTo pos (starEach es env)).any (·.1) = false := by intro _; with_unfolding_all rfl) (hd : (n == ("__debug__" : Str)) = false := by decide +kernel) (hdx : (x == ("__debug__" : Str)) = false := by decide +kernel) :
    EvE Γ sc k (.Call (.Name n np) (.Name x px :: es) [] pos) σ d (upd σ1 x (.own a (.dr Γ.w gr' mx'))) := by
  intro A env P g s Q R S _ q
  obtain ⟨f, o, fd, hm, ho, hdat, H⟩ := h2 S.ok
  refine wpAny_Call_ofName (EvE.global S hn hm ?_ hd)
  show wpAny _ A (callWith pos (.ref f) [] (backTo pos (starEach (.Name x px :: es) env)) []) Q noE s
  refine callWith_function (o := o) (fd := fd) ?_
  have e2 : backTo pos (starEach (.Name x px :: es) env) = (false, eval (.Name x px) env) :: backTo pos (starEach es env) := by rw [he]; rfl
  rw [e2]
  refine evalArgs_plain ?_
  obtain ⟨m, ns, l, _⟩ := own_dr S hx
  refine spliced_cons (wpAny_Name (loadName_any S ns l ?_) hdx)
  refine h1 pos A env P g s _ R S trivial fun vs P1 g1 h1' t1 st1 S1 a1 => ⟨⟨S1.base0 _ _ ho, hdat⟩, ?_⟩
  obtain ⟨m1, os1, B1⟩ := S1.body
  obtain ⟨v', l1, rfl', la1, hdr1⟩ := B1.names x _ hx1
  have am := B1.own_mem la1
  refine H A g1 { s with heap := h1', toks := t1 } a vs Q R S1.base S1.stay hdr1 (S1.off a am) a1 fun v g' h' tk st2 hs a2 hdr' hga => ?_
  have st2 : Step [a] [a] g1 g' h1' h' := st2
  have kp : ∀ b o, h1'.get? b = some o → b ≠ a → h'.get? b = some o := fun b o e hne => (st2.keep b o e (fun h => hne (List.mem_singleton.mp h))).1
  refine q v P1 g' h' tk (st1.trans ⟨fun b o e nb => ⟨kp b o e fun q => nb (q ▸ am), nb⟩, st2.grow, fun b o e => ?_, st2.more⟩) ?_ a2
  · rcases st2.new b o e with h | h | h
    · exact .inl h
    · exact .inr (.inl (by rw [List.mem_singleton.mp h]; exact am))
    · exact .inr (.inr h)
  · refine { S1 with base := fun b o e => st2.grow _ _ (S1.base b o e), stay := hs, off := fun p hp => ?_, inn := fun p hp => let ⟨o, e⟩ := S1.inn p hp; st2.more p o e, body := ⟨m1, os1, ⟨?_, B1.prot, fun y hy => ?_, fun y av hy => ?_⟩⟩ }
    · by_cases hpa : p = a
      · rw [hpa]; exact hga
      · cases q : g' p with
        | none => rfl
        | some z =>
          rcases st2.new p z q with h | h | h
          · rw [S1.off p hp] at h; cases h
          · exact absurd (List.mem_singleton.mp h) hpa
          · obtain ⟨o, e⟩ := S1.inn p hp; rw [h] at e; cases e
    · exact B1.ns.at' fun o e => kp _ o e (Ne.symm (B1.own_ne S1.apart la1))
    · obtain ⟨c, v0, h3, o, h4, h5⟩ := B1.cells y hy
      exact ⟨c, v0, h3, o, kp c o h4 (fun e => B1.own_cell S1.apart la1 h3 e.symm), h5⟩
    · have lk : ∀ {y v}, Loc sc env m1 h1' y v → Loc sc env m1 h' y v := by
        intro y v l
        rcases l with l | ⟨l, c, hc, o, h4, h5⟩
        · exact .inl l
        · exact .inr ⟨l, c, hc, o, kp c o h4 (fun e => B1.own_cell S1.apart la1 hc e.symm), h5⟩
      rw [lookup_upd] at hy
      by_cases q : y = x
      · rw [if_pos q] at hy; cases hy
        subst q
        subst rfl'
        exact ⟨.ref a, lk l1, rfl, la1, hdr'⟩
      · rw [if_neg q] at hy
        obtain ⟨v0, l0, r0⟩ := B1.names y av hy
        exact ⟨v0, lk l0, r0.kept st2.grow fun b hb o e => kp b o e fun w => q (nodup_lookup (B1.os_nodup S1.apart) hb (w ▸ la1))⟩

theorem EvO.call {n : Str} {e : Expr} {es : List Expr} {np pos : Pos} {ds : List D} {oc : OC} (h1 : EvL Γ sc k (e :: es) σ ds σ1) (h2 : CallO Γ k n ds oc) (hx : sc.names.lookup n = some .globalImplicit)
    (he : ∀ env, starEach (e :: es) env = (false, eval e env) :: starEach es env := by intro _; with_unfolding_all rfl) (hp : ∀ env, (backTo pos (starEach es env)).any (·.1) = false := by intro _; with_unfolding_all rfl) (hd : (n == ("__debug__" : Str)) = false := by decide +kernel) :
    EvO Γ sc k (.Call (.Name n np) (e :: es) [] pos) σ oc σ1 := by
  intro A env P g s Q R S q
  obtain ⟨f, o, fd, hm, ho, hdat, H⟩ := h2 S.ok
  refine wpAny_Call_ofName (EvE.global S hx hm ?_ hd)
  show wpAny _ A (callWith pos (.ref f) [] (backTo pos (starEach (e :: es) env)) []) Q noE s
  refine callWith_function (o := o) (fd := fd) ?_
  have h1' := h1 pos A env P g s (fun vs s' => (s'.heap.get? f = some o ∧ o.data = .func fd) ∧ wpAny (model Γ.prog Γ.w) A (PySem.call (.ref f) ([] ++ vs) []) Q noE s') R S trivial fun vs P1 g1 h1' t1 st1 S1 a1 => ⟨⟨S1.base0 _ _ ho, hdat⟩, ?_⟩
  · have e2 : backTo pos (starEach (e :: es) env) = (false, eval e env) :: backTo pos (starEach es env) := by rw [he]; rfl
    rw [e2]
    refine evalArgs_plain ?_
    dsimp only at h1'
    rw [e2] at h1'
    exact h1'
  · exact H A g1 _ vs Q R S1.base S1.stay a1 fun a g' h' tk st2 hs hoc hga hn => by
      obtain ⟨S2, st3⟩ := S1.called st2 hs
      refine q a P1 g' h' tk (st1.trans st3) S2 ⟨hoc, fun hp => ?_, hga⟩ (st1.fresh hn)
      obtain ⟨o, e⟩ := S1.inn a hp
      have hn : h1'.get? a = none := hn
      rw [hn] at e; cases e
end Mine
end

section
open PySem PySem.W PyProof.Rows PySem.Calls
set_option maxRecDepth 100000
namespace Mine
variable {Γ : Gl}
noncomputable abbrev S (s : String) : Str := Str.ofString s
theorem len0 {vs : List Value} (h : vs.length = 0) : vs = [] := List.length_eq_zero_iff.mp h
theorem len1 {vs : List Value} (h : vs.length = 1) : ∃ a, vs = [a] := List.length_eq_one_iff.mp h
theorem lenS {vs : List Value} {n : Nat} (h : vs.length = n + 1) : ∃ a l, vs = a :: l ∧ l.length = n := by
  cases vs with
  | nil => cases h
  | cons a l => exact ⟨a, l, rfl, Nat.succ.inj h⟩
theorem len2 {vs : List Value} (h : vs.length = 2) : ∃ a b, vs = [a, b] := by
  obtain ⟨a, l, rfl, h1⟩ := lenS h; clear h
  obtain ⟨b, rfl⟩ := len1 h1
  exact ⟨a, b, rfl⟩
theorem len3 {vs : List Value} (h : vs.length = 3) : ∃ a b c, vs = [a, b, c] := by
  obtain ⟨a, l, rfl, h1⟩ := lenS h; clear h
  obtain ⟨b, c, rfl⟩ := len2 h1
  exact ⟨a, b, c, rfl⟩
theorem len4 {vs : List Value} (h : vs.length = 4) : ∃ a b c d, vs = [a, b, c, d] := by
  obtain ⟨a, l, rfl, h1⟩ := lenS h; clear h
  obtain ⟨b, c, d, rfl⟩ := len3 h1
  exact ⟨a, b, c, d, rfl⟩

theorem of_gcd {k : Nat} {d0 d1 d : D} {o : Out} (h : ExS Γ (fS 3) k (fB 3) [(S "a", .d d0), (S "b", .d d1)] o) (ho : o.val d := by rfl) : CallF Γ (k + 1) (S "gcd") [d0, d1] d :=
  CallF.of (sc := fS 3) (ns := [S "a", S "b"]) (isFn 3 _ (by decide +kernel)) rfl (by intro pm code doc vs h; obtain ⟨v0, v1, rfl⟩ := len2 h; rfl) (by decide +kernel) (fa_cons (by first | exact .inl (by decide +kernel) | exact .inr (by decide +kernel)) (fa_cons (by first | exact .inl (by decide +kernel) | exact .inr (by decide +kernel)) fa_nil)) h ho
theorem of_gcd_all {k : Nat} {d0 d : D} {o : Out} (h : ExS Γ (fS 4) (k + 1) (fB 4) [(S "numbers", .d d0)] o) (ho : o.val d := by rfl) : CallF Γ (k + 2) (S "gcd_all") [d0] d :=
  CallF.of (sc := fS 4) (ns := [S "numbers"]) (isFn 4 _ (by decide +kernel)) rfl (by intro pm code doc vs h; obtain ⟨v0, rfl⟩ := len1 h; rfl) (by decide +kernel) (fa_cons (by first | exact .inl (by decide +kernel) | exact .inr (by decide +kernel)) fa_nil) h ho
theorem of_rat {k : Nat} {d0 d1 d : D} {o : Out} (h : ExS Γ (fS 6) (k + 1) (fB 6) [(S "top", .d d0), (S "bottom", .d d1)] o) (ho : o.val d := by rfl) : CallF Γ (k + 2) (S "rat") [d0, d1] d :=
  CallF.of (sc := fS 6) (ns := [S "top", S "bottom"]) (isFn 6 _ (by decide +kernel)) rfl (by intro pm code doc vs h; obtain ⟨v0, v1, rfl⟩ := len2 h; rfl) (by decide +kernel) (fa_cons (by first | exact .inl (by decide +kernel) | exact .inr (by decide +kernel)) (fa_cons (by first | exact .inl (by decide +kernel) | exact .inr (by decide +kernel)) fa_nil)) h ho
theorem of_radd {k : Nat} {d0 d1 d : D} {o : Out} (h : ExS Γ (fS 7) (k + 2) (fB 7) [(S "a", .d d0), (S "b", .d d1)] o) (ho : o.val d := by rfl) : CallF Γ (k + 3) (S "radd") [d0, d1] d :=
  CallF.of (sc := fS 7) (ns := [S "a", S "b"]) (isFn 7 _ (by decide +kernel)) rfl (by intro pm code doc vs h; obtain ⟨v0, v1, rfl⟩ := len2 h; rfl) (by decide +kernel) (fa_cons (by first | exact .inl (by decide +kernel) | exact .inr (by decide +kernel)) (fa_cons (by first | exact .inl (by decide +kernel) | exact .inr (by decide +kernel)) fa_nil)) h ho
theorem of_rmul {k : Nat} {d0 d1 d : D} {o : Out} (h : ExS Γ (fS 8) (k + 2) (fB 8) [(S "a", .d d0), (S "b", .d d1)] o) (ho : o.val d := by rfl) : CallF Γ (k + 3) (S "rmul") [d0, d1] d :=
  CallF.of (sc := fS 8) (ns := [S "a", S "b"]) (isFn 8 _ (by decide +kernel)) rfl (by intro pm code doc vs h; obtain ⟨v0, v1, rfl⟩ := len2 h; rfl) (by decide +kernel) (fa_cons (by first | exact .inl (by decide +kernel) | exact .inr (by decide +kernel)) (fa_cons (by first | exact .inl (by decide +kernel) | exact .inr (by decide +kernel)) fa_nil)) h ho
theorem of_rcompare {k : Nat} {d0 d1 d : D} {o : Out} (h : ExS Γ (fS 9) k (fB 9) [(S "a", .d d0), (S "b", .d d1)] o) (ho : o.val d := by rfl) : CallF Γ (k + 1) (S "rcompare") [d0, d1] d :=
  CallF.of (sc := fS 9) (ns := [S "a", S "b"]) (isFn 9 _ (by decide +kernel)) rfl (by intro pm code doc vs h; obtain ⟨v0, v1, rfl⟩ := len2 h; rfl) (by decide +kernel) (fa_cons (by first | exact .inl (by decide +kernel) | exact .inr (by decide +kernel)) (fa_cons (by first | exact .inl (by decide +kernel) | exact .inr (by decide +kernel)) fa_nil)) h ho
theorem of_ztrim {k : Nat} {d0 d : D} {o : Out} (h : ExS Γ (fS 11) k (fB 11) [(S "row", .d d0)] o) (ho : o.val d := by rfl) : CallF Γ (k + 1) (S "ztrim") [d0] d :=
  CallF.of (sc := fS 11) (ns := [S "row"]) (isFn 11 _ (by decide +kernel)) rfl (by intro pm code doc vs h; obtain ⟨v0, rfl⟩ := len1 h; rfl) (by decide +kernel) (fa_cons (by first | exact .inl (by decide +kernel) | exact .inr (by decide +kernel)) fa_nil) h ho
theorem of_zdegree {k : Nat} {d0 d : D} {o : Out} (h : ExS Γ (fS 12) k (fB 12) [(S "p", .d d0)] o) (ho : o.val d := by rfl) : CallF Γ (k + 1) (S "zdegree") [d0] d :=
  CallF.of (sc := fS 12) (ns := [S "p"]) (isFn 12 _ (by decide +kernel)) rfl (by intro pm code doc vs h; obtain ⟨v0, rfl⟩ := len1 h; rfl) (by decide +kernel) (fa_cons (by first | exact .inl (by decide +kernel) | exact .inr (by decide +kernel)) fa_nil) h ho
theorem of_zlead {k : Nat} {d0 d : D} {o : Out} (h : ExS Γ (fS 13) k (fB 13) [(S "p", .d d0)] o) (ho : o.val d := by rfl) : CallF Γ (k + 1) (S "zlead") [d0] d :=
  CallF.of (sc := fS 13) (ns := [S "p"]) (isFn 13 _ (by decide +kernel)) rfl (by intro pm code doc vs h; obtain ⟨v0, rfl⟩ := len1 h; rfl) (by decide +kernel) (fa_cons (by first | exact .inl (by decide +kernel) | exact .inr (by decide +kernel)) fa_nil) h ho
theorem of_zadd {k : Nat} {d0 d1 d : D} {o : Out} (h : ExS Γ (fS 14) (k + 1) (fB 14) [(S "a", .d d0), (S "b", .d d1)] o) (ho : o.val d := by rfl) : CallF Γ (k + 2) (S "zadd") [d0, d1] d :=
  CallF.of (sc := fS 14) (ns := [S "a", S "b"]) (isFn 14 _ (by decide +kernel)) rfl (by intro pm code doc vs h; obtain ⟨v0, v1, rfl⟩ := len2 h; rfl) (by decide +kernel) (fa_cons (by first | exact .inl (by decide +kernel) | exact .inr (by decide +kernel)) (fa_cons (by first | exact .inl (by decide +kernel) | exact .inr (by decide +kernel)) fa_nil)) h ho
theorem of_zneg {k : Nat} {d0 d : D} {o : Out} (h : ExS Γ (fS 15) k (fB 15) [(S "p", .d d0)] o) (ho : o.val d := by rfl) : CallF Γ (k + 1) (S "zneg") [d0] d :=
  CallF.of (sc := fS 15) (ns := [S "p"]) (isFn 15 _ (by decide +kernel)) rfl (by intro pm code doc vs h; obtain ⟨v0, rfl⟩ := len1 h; rfl) (by decide +kernel) (fa_cons (by first | exact .inl (by decide +kernel) | exact .inr (by decide +kernel)) fa_nil) h ho
theorem of_zsub {k : Nat} {d0 d1 d : D} {o : Out} (h : ExS Γ (fS 16) (k + 2) (fB 16) [(S "a", .d d0), (S "b", .d d1)] o) (ho : o.val d := by rfl) : CallF Γ (k + 3) (S "zsub") [d0, d1] d :=
  CallF.of (sc := fS 16) (ns := [S "a", S "b"]) (isFn 16 _ (by decide +kernel)) rfl (by intro pm code doc vs h; obtain ⟨v0, v1, rfl⟩ := len2 h; rfl) (by decide +kernel) (fa_cons (by first | exact .inl (by decide +kernel) | exact .inr (by decide +kernel)) (fa_cons (by first | exact .inl (by decide +kernel) | exact .inr (by decide +kernel)) fa_nil)) h ho
theorem of_zscale {k : Nat} {d0 d1 d : D} {o : Out} (h : ExS Γ (fS 17) k (fB 17) [(S "p", .d d0), (S "k", .d d1)] o) (ho : o.val d := by rfl) : CallF Γ (k + 1) (S "zscale") [d0, d1] d :=
  CallF.of (sc := fS 17) (ns := [S "p", S "k"]) (isFn 17 _ (by decide +kernel)) rfl (by intro pm code doc vs h; obtain ⟨v0, v1, rfl⟩ := len2 h; rfl) (by decide +kernel) (fa_cons (by first | exact .inl (by decide +kernel) | exact .inr (by decide +kernel)) (fa_cons (by first | exact .inl (by decide +kernel) | exact .inr (by decide +kernel)) fa_nil)) h ho
theorem of_zraise {k : Nat} {d0 d1 d : D} {o : Out} (h : ExS Γ (fS 18) k (fB 18) [(S "p", .d d0), (S "many", .d d1)] o) (ho : o.val d := by rfl) : CallF Γ (k + 1) (S "zraise") [d0, d1] d :=
  CallF.of (sc := fS 18) (ns := [S "p", S "many"]) (isFn 18 _ (by decide +kernel)) rfl (by intro pm code doc vs h; obtain ⟨v0, v1, rfl⟩ := len2 h; rfl) (by decide +kernel) (fa_cons (by first | exact .inl (by decide +kernel) | exact .inr (by decide +kernel)) (fa_cons (by first | exact .inl (by decide +kernel) | exact .inr (by decide +kernel)) fa_nil)) h ho
theorem of_zcontent {k : Nat} {d0 d : D} {o : Out} (h : ExS Γ (fS 19) (k + 2) (fB 19) [(S "p", .d d0)] o) (ho : o.val d := by rfl) : CallF Γ (k + 3) (S "zcontent") [d0] d :=
  CallF.of (sc := fS 19) (ns := [S "p"]) (isFn 19 _ (by decide +kernel)) rfl (by intro pm code doc vs h; obtain ⟨v0, rfl⟩ := len1 h; rfl) (by decide +kernel) (fa_cons (by first | exact .inl (by decide +kernel) | exact .inr (by decide +kernel)) fa_nil) h ho
theorem of_zdivided {k : Nat} {d0 d1 d : D} {o : Out} (h : ExS Γ (fS 20) k (fB 20) [(S "p", .d d0), (S "k", .d d1)] o) (ho : o.val d := by rfl) : CallF Γ (k + 1) (S "zdivided") [d0, d1] d :=
  CallF.of (sc := fS 20) (ns := [S "p", S "k"]) (isFn 20 _ (by decide +kernel)) rfl (by intro pm code doc vs h; obtain ⟨v0, v1, rfl⟩ := len2 h; rfl) (by decide +kernel) (fa_cons (by first | exact .inl (by decide +kernel) | exact .inr (by decide +kernel)) (fa_cons (by first | exact .inl (by decide +kernel) | exact .inr (by decide +kernel)) fa_nil)) h ho
theorem of_zprimitive {k : Nat} {d0 d : D} {o : Out} (h : ExS Γ (fS 21) (k + 3) (fB 21) [(S "p", .d d0)] o) (ho : o.val d := by rfl) : CallF Γ (k + 4) (S "zprimitive") [d0] d :=
  CallF.of (sc := fS 21) (ns := [S "p"]) (isFn 21 _ (by decide +kernel)) rfl (by intro pm code doc vs h; obtain ⟨v0, rfl⟩ := len1 h; rfl) (by decide +kernel) (fa_cons (by first | exact .inl (by decide +kernel) | exact .inr (by decide +kernel)) fa_nil) h ho
theorem of_zderive {k : Nat} {d0 d : D} {o : Out} (h : ExS Γ (fS 22) k (fB 22) [(S "p", .d d0)] o) (ho : o.val d := by rfl) : CallF Γ (k + 1) (S "zderive") [d0] d :=
  CallF.of (sc := fS 22) (ns := [S "p"]) (isFn 22 _ (by decide +kernel)) rfl (by intro pm code doc vs h; obtain ⟨v0, rfl⟩ := len1 h; rfl) (by decide +kernel) (fa_cons (by first | exact .inl (by decide +kernel) | exact .inr (by decide +kernel)) fa_nil) h ho
theorem of_check_bottom {k : Nat} {d0 d : D} {o : Out} (h : ExS Γ (fS 24) k (fB 24) [(S "p", .d d0)] o) (ho : o.val d := by rfl) : CallF Γ (k + 1) (S "check_bottom") [d0] d :=
  CallF.of (sc := fS 24) (ns := [S "p"]) (isFn 24 _ (by decide +kernel)) rfl (by intro pm code doc vs h; obtain ⟨v0, rfl⟩ := len1 h; rfl) (by decide +kernel) (fa_cons (by first | exact .inl (by decide +kernel) | exact .inr (by decide +kernel)) fa_nil) h ho
theorem of_zexact {k : Nat} {d0 d1 d : D} {o : Out} (h : ExS Γ (fS 25) (k + 3) (fB 25) [(S "a", .d d0), (S "b", .d d1)] o) (ho : o.val d := by rfl) : CallF Γ (k + 4) (S "zexact") [d0, d1] d :=
  CallF.of (sc := fS 25) (ns := [S "a", S "b"]) (isFn 25 _ (by decide +kernel)) rfl (by intro pm code doc vs h; obtain ⟨v0, v1, rfl⟩ := len2 h; rfl) (by decide +kernel) (fa_cons (by first | exact .inl (by decide +kernel) | exact .inr (by decide +kernel)) (fa_cons (by first | exact .inl (by decide +kernel) | exact .inr (by decide +kernel)) fa_nil)) h ho
theorem of_pseudo {k : Nat} {d0 d1 d : D} {o : Out} (h : ExS Γ (fS 26) (k + 3) (fB 26) [(S "a", .d d0), (S "b", .d d1)] o) (ho : o.val d := by rfl) : CallF Γ (k + 4) (S "pseudo") [d0, d1] d :=
  CallF.of (sc := fS 26) (ns := [S "a", S "b"]) (isFn 26 _ (by decide +kernel)) rfl (by intro pm code doc vs h; obtain ⟨v0, v1, rfl⟩ := len2 h; rfl) (by decide +kernel) (fa_cons (by first | exact .inl (by decide +kernel) | exact .inr (by decide +kernel)) (fa_cons (by first | exact .inl (by decide +kernel) | exact .inr (by decide +kernel)) fa_nil)) h ho
theorem of_zpseudo_rest {k : Nat} {d0 d1 d : D} {o : Out} (h : ExS Γ (fS 27) (k + 4) (fB 27) [(S "a", .d d0), (S "b", .d d1)] o) (ho : o.val d := by rfl) : CallF Γ (k + 5) (S "zpseudo_rest") [d0, d1] d :=
  CallF.of (sc := fS 27) (ns := [S "a", S "b"]) (isFn 27 _ (by decide +kernel)) rfl (by intro pm code doc vs h; obtain ⟨v0, v1, rfl⟩ := len2 h; rfl) (by decide +kernel) (fa_cons (by first | exact .inl (by decide +kernel) | exact .inr (by decide +kernel)) (fa_cons (by first | exact .inl (by decide +kernel) | exact .inr (by decide +kernel)) fa_nil)) h ho
theorem of_next_height {k : Nat} {d0 d1 d2 d : D} {o : Out} (h : ExS Γ (fS 29) k (fB 29) [(S "front", .d d0), (S "step", .d d1), (S "height", .d d2)] o) (ho : o.val d := by rfl) : CallF Γ (k + 1) (S "next_height") [d0, d1, d2] d :=
  CallF.of (sc := fS 29) (ns := [S "front", S "step", S "height"]) (isFn 29 _ (by decide +kernel)) rfl (by intro pm code doc vs h; obtain ⟨v0, v1, v2, rfl⟩ := len3 h; rfl) (by decide +kernel) (fa_cons (by first | exact .inl (by decide +kernel) | exact .inr (by decide +kernel)) (fa_cons (by first | exact .inl (by decide +kernel) | exact .inr (by decide +kernel)) (fa_cons (by first | exact .inl (by decide +kernel) | exact .inr (by decide +kernel)) fa_nil))) h ho
theorem of_subresultants {k : Nat} {d0 d1 d : D} {o : Out} (h : ExS Γ (fS 30) (k + 5) (fB 30) [(S "a", .d d0), (S "b", .d d1)] o) (ho : o.val d := by rfl) : CallF Γ (k + 6) (S "subresultants") [d0, d1] d :=
  CallF.of (sc := fS 30) (ns := [S "a", S "b"]) (isFn 30 _ (by decide +kernel)) rfl (by intro pm code doc vs h; obtain ⟨v0, v1, rfl⟩ := len2 h; rfl) (by decide +kernel) (fa_cons (by first | exact .inl (by decide +kernel) | exact .inr (by decide +kernel)) (fa_cons (by first | exact .inl (by decide +kernel) | exact .inr (by decide +kernel)) fa_nil)) h ho
theorem of_zgcd {k : Nat} {d0 d1 d : D} {o : Out} (h : ExS Γ (fS 31) (k + 6) (fB 31) [(S "a", .d d0), (S "b", .d d1)] o) (ho : o.val d := by rfl) : CallF Γ (k + 7) (S "zgcd") [d0, d1] d :=
  CallF.of (sc := fS 31) (ns := [S "a", S "b"]) (isFn 31 _ (by decide +kernel)) rfl (by intro pm code doc vs h; obtain ⟨v0, v1, rfl⟩ := len2 h; rfl) (by decide +kernel) (fa_cons (by first | exact .inl (by decide +kernel) | exact .inr (by decide +kernel)) (fa_cons (by first | exact .inl (by decide +kernel) | exact .inr (by decide +kernel)) fa_nil)) h ho
theorem of_sign_of {k : Nat} {d0 d : D} {o : Out} (h : ExS Γ (fS 33) k (fB 33) [(S "number", .d d0)] o) (ho : o.val d := by rfl) : CallF Γ (k + 1) (S "sign_of") [d0] d :=
  CallF.of (sc := fS 33) (ns := [S "number"]) (isFn 33 _ (by decide +kernel)) rfl (by intro pm code doc vs h; obtain ⟨v0, rfl⟩ := len1 h; rfl) (by decide +kernel) (fa_cons (by first | exact .inl (by decide +kernel) | exact .inr (by decide +kernel)) fa_nil) h ho
theorem of_value_sign {k : Nat} {d0 d1 d : D} {o : Out} (h : ExS Γ (fS 34) (k + 1) (fB 34) [(S "p", .d d0), (S "x", .d d1)] o) (ho : o.val d := by rfl) : CallF Γ (k + 2) (S "value_sign") [d0, d1] d :=
  CallF.of (sc := fS 34) (ns := [S "p", S "x"]) (isFn 34 _ (by decide +kernel)) rfl (by intro pm code doc vs h; obtain ⟨v0, v1, rfl⟩ := len2 h; rfl) (by decide +kernel) (fa_cons (by first | exact .inl (by decide +kernel) | exact .inr (by decide +kernel)) (fa_cons (by first | exact .inl (by decide +kernel) | exact .inr (by decide +kernel)) fa_nil)) h ho
theorem of_end_sign {k : Nat} {d0 d1 d : D} {o : Out} (h : ExS Γ (fS 35) (k + 1) (fB 35) [(S "p", .d d0), (S "end", .d d1)] o) (ho : o.val d := by rfl) : CallF Γ (k + 2) (S "end_sign") [d0, d1] d :=
  CallF.of (sc := fS 35) (ns := [S "p", S "end"]) (isFn 35 _ (by decide +kernel)) rfl (by intro pm code doc vs h; obtain ⟨v0, v1, rfl⟩ := len2 h; rfl) (by decide +kernel) (fa_cons (by first | exact .inl (by decide +kernel) | exact .inr (by decide +kernel)) (fa_cons (by first | exact .inl (by decide +kernel) | exact .inr (by decide +kernel)) fa_nil)) h ho
theorem of_sign_at {k : Nat} {d0 d1 d : D} {o : Out} (h : ExS Γ (fS 36) (k + 2) (fB 36) [(S "p", .d d0), (S "x", .d d1)] o) (ho : o.val d := by rfl) : CallF Γ (k + 3) (S "sign_at") [d0, d1] d :=
  CallF.of (sc := fS 36) (ns := [S "p", S "x"]) (isFn 36 _ (by decide +kernel)) rfl (by intro pm code doc vs h; obtain ⟨v0, v1, rfl⟩ := len2 h; rfl) (by decide +kernel) (fa_cons (by first | exact .inl (by decide +kernel) | exact .inr (by decide +kernel)) (fa_cons (by first | exact .inl (by decide +kernel) | exact .inr (by decide +kernel)) fa_nil)) h ho
theorem of_simple_part {k : Nat} {d0 d : D} {o : Out} (h : ExS Γ (fS 37) (k + 7) (fB 37) [(S "f", .d d0)] o) (ho : o.val d := by rfl) : CallF Γ (k + 8) (S "simple_part") [d0] d :=
  CallF.of (sc := fS 37) (ns := [S "f"]) (isFn 37 _ (by decide +kernel)) rfl (by intro pm code doc vs h; obtain ⟨v0, rfl⟩ := len1 h; rfl) (by decide +kernel) (fa_cons (by first | exact .inl (by decide +kernel) | exact .inr (by decide +kernel)) fa_nil) h ho
theorem of_lessened {k : Nat} {d0 d : D} {o : Out} (h : ExS Γ (fS 38) (k + 3) (fB 38) [(S "p", .d d0)] o) (ho : o.val d := by rfl) : CallF Γ (k + 4) (S "lessened") [d0] d :=
  CallF.of (sc := fS 38) (ns := [S "p"]) (isFn 38 _ (by decide +kernel)) rfl (by intro pm code doc vs h; obtain ⟨v0, rfl⟩ := len1 h; rfl) (by decide +kernel) (fa_cons (by first | exact .inl (by decide +kernel) | exact .inr (by decide +kernel)) fa_nil) h ho
theorem of_next_of_row {k : Nat} {d0 d1 d : D} {o : Out} (h : ExS Γ (fS 39) (k + 4) (fB 39) [(S "a", .d d0), (S "b", .d d1)] o) (ho : o.val d := by rfl) : CallF Γ (k + 5) (S "next_of_row") [d0, d1] d :=
  CallF.of (sc := fS 39) (ns := [S "a", S "b"]) (isFn 39 _ (by decide +kernel)) rfl (by intro pm code doc vs h; obtain ⟨v0, v1, rfl⟩ := len2 h; rfl) (by decide +kernel) (fa_cons (by first | exact .inl (by decide +kernel) | exact .inr (by decide +kernel)) (fa_cons (by first | exact .inl (by decide +kernel) | exact .inr (by decide +kernel)) fa_nil)) h ho
theorem of_sturm_row {k : Nat} {d0 d : D} {o : Out} (h : ExS Γ (fS 40) (k + 5) (fB 40) [(S "f", .d d0)] o) (ho : o.val d := by rfl) : CallF Γ (k + 6) (S "sturm_row") [d0] d :=
  CallF.of (sc := fS 40) (ns := [S "f"]) (isFn 40 _ (by decide +kernel)) rfl (by intro pm code doc vs h; obtain ⟨v0, rfl⟩ := len1 h; rfl) (by decide +kernel) (fa_cons (by first | exact .inl (by decide +kernel) | exact .inr (by decide +kernel)) fa_nil) h ho
theorem of_changes_at {k : Nat} {d0 d1 d : D} {o : Out} (h : ExS Γ (fS 41) (k + 3) (fB 41) [(S "row", .d d0), (S "x", .d d1)] o) (ho : o.val d := by rfl) : CallF Γ (k + 4) (S "changes_at") [d0, d1] d :=
  CallF.of (sc := fS 41) (ns := [S "row", S "x"]) (isFn 41 _ (by decide +kernel)) rfl (by intro pm code doc vs h; obtain ⟨v0, v1, rfl⟩ := len2 h; rfl) (by decide +kernel) (fa_cons (by first | exact .inl (by decide +kernel) | exact .inr (by decide +kernel)) (fa_cons (by first | exact .inl (by decide +kernel) | exact .inr (by decide +kernel)) fa_nil)) h ho
theorem of_count_by_row {k : Nat} {d0 d1 d2 d : D} {o : Out} (h : ExS Γ (fS 42) (k + 4) (fB 42) [(S "row", .d d0), (S "low", .d d1), (S "high", .d d2)] o) (ho : o.val d := by rfl) : CallF Γ (k + 5) (S "count_by_row") [d0, d1, d2] d :=
  CallF.of (sc := fS 42) (ns := [S "row", S "low", S "high"]) (isFn 42 _ (by decide +kernel)) rfl (by intro pm code doc vs h; obtain ⟨v0, v1, v2, rfl⟩ := len3 h; rfl) (by decide +kernel) (fa_cons (by first | exact .inl (by decide +kernel) | exact .inr (by decide +kernel)) (fa_cons (by first | exact .inl (by decide +kernel) | exact .inr (by decide +kernel)) (fa_cons (by first | exact .inl (by decide +kernel) | exact .inr (by decide +kernel)) fa_nil))) h ho
theorem of_count_roots {k : Nat} {d0 d1 d2 d : D} {o : Out} (h : ExS Γ (fS 43) (k + 8) (fB 43) [(S "f", .d d0), (S "low", .d d1), (S "high", .d d2)] o) (ho : o.val d := by rfl) : CallF Γ (k + 9) (S "count_roots") [d0, d1, d2] d :=
  CallF.of (sc := fS 43) (ns := [S "f", S "low", S "high"]) (isFn 43 _ (by decide +kernel)) rfl (by intro pm code doc vs h; obtain ⟨v0, v1, v2, rfl⟩ := len3 h; rfl) (by decide +kernel) (fa_cons (by first | exact .inl (by decide +kernel) | exact .inr (by decide +kernel)) (fa_cons (by first | exact .inl (by decide +kernel) | exact .inr (by decide +kernel)) (fa_cons (by first | exact .inl (by decide +kernel) | exact .inr (by decide +kernel)) fa_nil))) h ho
theorem of_root_bound {k : Nat} {d0 d : D} {o : Out} (h : ExS Γ (fS 44) (k + 1) (fB 44) [(S "f", .d d0)] o) (ho : o.val d := by rfl) : CallF Γ (k + 2) (S "root_bound") [d0] d :=
  CallF.of (sc := fS 44) (ns := [S "f"]) (isFn 44 _ (by decide +kernel)) rfl (by intro pm code doc vs h; obtain ⟨v0, rfl⟩ := len1 h; rfl) (by decide +kernel) (fa_cons (by first | exact .inl (by decide +kernel) | exact .inr (by decide +kernel)) fa_nil) h ho
theorem of_middle {k : Nat} {d0 d1 d : D} {o : Out} (h : ExS Γ (fS 47) (k + 3) (fB 47) [(S "low", .d d0), (S "high", .d d1)] o) (ho : o.val d := by rfl) : CallF Γ (k + 4) (S "middle") [d0, d1] d :=
  CallF.of (sc := fS 47) (ns := [S "low", S "high"]) (isFn 47 _ (by decide +kernel)) rfl (by intro pm code doc vs h; obtain ⟨v0, v1, rfl⟩ := len2 h; rfl) (by decide +kernel) (fa_cons (by first | exact .inl (by decide +kernel) | exact .inr (by decide +kernel)) (fa_cons (by first | exact .inl (by decide +kernel) | exact .inr (by decide +kernel)) fa_nil)) h ho
theorem of_linear_of {k : Nat} {d0 d : D} {o : Out} (h : ExS Γ (fS 48) k (fB 48) [(S "x", .d d0)] o) (ho : o.val d := by rfl) : CallF Γ (k + 1) (S "linear_of") [d0] d :=
  CallF.of (sc := fS 48) (ns := [S "x"]) (isFn 48 _ (by decide +kernel)) rfl (by intro pm code doc vs h; obtain ⟨v0, rfl⟩ := len1 h; rfl) (by decide +kernel) (fa_cons (by first | exact .inl (by decide +kernel) | exact .inr (by decide +kernel)) fa_nil) h ho
theorem of_is_inside {k : Nat} {d0 d1 d : D} {o : Out} (h : ExS Γ (fS 49) (k + 1) (fB 49) [(S "x", .d d0), (S "interval", .d d1)] o) (ho : o.val d := by rfl) : CallF Γ (k + 2) (S "is_inside") [d0, d1] d :=
  CallF.of (sc := fS 49) (ns := [S "x", S "interval"]) (isFn 49 _ (by decide +kernel)) rfl (by intro pm code doc vs h; obtain ⟨v0, v1, rfl⟩ := len2 h; rfl) (by decide +kernel) (fa_cons (by first | exact .inl (by decide +kernel) | exact .inr (by decide +kernel)) (fa_cons (by first | exact .inl (by decide +kernel) | exact .inr (by decide +kernel)) fa_nil)) h ho
theorem of_split_roots {k : Nat} {d0 d : D} {o : Out} (h : ExS Γ (fS 50) (k + 6) (fB 50) [(S "f", .d d0)] o) (ho : o.val d := by rfl) : CallF Γ (k + 7) (S "split_roots") [d0] d :=
  CallF.of (sc := fS 50) (ns := [S "f"]) (isFn 50 _ (by decide +kernel)) rfl (by intro pm code doc vs h; obtain ⟨v0, rfl⟩ := len1 h; rfl) (by decide +kernel) (fa_cons (by first | exact .inl (by decide +kernel) | exact .inr (by decide +kernel)) fa_nil) h ho
theorem of_isolate {k : Nat} {d0 d : D} {o : Out} (h : ExS Γ (fS 51) (k + 8) (fB 51) [(S "f", .d d0)] o) (ho : o.val d := by rfl) : CallF Γ (k + 9) (S "isolate") [d0] d :=
  CallF.of (sc := fS 51) (ns := [S "f"]) (isFn 51 _ (by decide +kernel)) rfl (by intro pm code doc vs h; obtain ⟨v0, rfl⟩ := len1 h; rfl) (by decide +kernel) (fa_cons (by first | exact .inl (by decide +kernel) | exact .inr (by decide +kernel)) fa_nil) h ho
theorem of_kept_off {k : Nat} {d0 d1 d2 d : D} {o : Out} (h : ExS Γ (fS 52) (k + 5) (fB 52) [(S "f", .d d0), (S "interval", .d d1), (S "numbers", .d d2)] o) (ho : o.val d := by rfl) : CallF Γ (k + 6) (S "kept_off") [d0, d1, d2] d :=
  CallF.of (sc := fS 52) (ns := [S "f", S "interval", S "numbers"]) (isFn 52 _ (by decide +kernel)) rfl (by intro pm code doc vs h; obtain ⟨v0, v1, v2, rfl⟩ := len3 h; rfl) (by decide +kernel) (fa_cons (by first | exact .inl (by decide +kernel) | exact .inr (by decide +kernel)) (fa_cons (by first | exact .inl (by decide +kernel) | exact .inr (by decide +kernel)) (fa_cons (by first | exact .inl (by decide +kernel) | exact .inr (by decide +kernel)) fa_nil))) h ho
theorem of_sorted_intervals {k : Nat} {d0 d : D} {o : Out} (h : ExS Γ (fS 53) (k + 1) (fB 53) [(S "pieces", .d d0)] o) (ho : o.val d := by rfl) : CallF Γ (k + 2) (S "sorted_intervals") [d0] d :=
  CallF.of (sc := fS 53) (ns := [S "pieces"]) (isFn 53 _ (by decide +kernel)) rfl (by intro pm code doc vs h; obtain ⟨v0, rfl⟩ := len1 h; rfl) (by decide +kernel) (fa_cons (by first | exact .inl (by decide +kernel) | exact .inr (by decide +kernel)) fa_nil) h ho
theorem of_halved {k : Nat} {d0 d1 d : D} {o : Out} (h : ExS Γ (fS 54) (k + 4) (fB 54) [(S "f", .d d0), (S "interval", .d d1)] o) (ho : o.val d := by rfl) : CallF Γ (k + 5) (S "halved") [d0, d1] d :=
  CallF.of (sc := fS 54) (ns := [S "f", S "interval"]) (isFn 54 _ (by decide +kernel)) rfl (by intro pm code doc vs h; obtain ⟨v0, v1, rfl⟩ := len2 h; rfl) (by decide +kernel) (fa_cons (by first | exact .inl (by decide +kernel) | exact .inr (by decide +kernel)) (fa_cons (by first | exact .inl (by decide +kernel) | exact .inr (by decide +kernel)) fa_nil)) h ho
theorem of_law_take {k : Nat} {d1 : D} {d : D} {gr mx gr' mx' : Int} (h : ∀ ad, ExS Γ (fS 56) k (fB 56) [(S "draws", .own ad (.dr Γ.w gr mx)), (S "many", .d d1)] (.retN d fun σ' => σ'.lookup (S "draws") = some (.own ad (.dr Γ.w gr' mx')))) : CallD Γ (k + 1) (S "_law_take") gr mx [d1] d gr' mx' :=
  CallD.of (sc := fS 56) (n0 := S "draws") (ns := [S "many"]) (isFn 56 _ (by decide +kernel)) rfl (by intro pm code doc vs h; obtain ⟨v0, v1, rfl⟩ := len2 h; rfl) (by decide +kernel) (fa_cons (by first | exact .inl (by decide +kernel) | exact .inr (by decide +kernel)) (fa_cons (by first | exact .inl (by decide +kernel) | exact .inr (by decide +kernel)) fa_nil)) h
theorem of_law_draws {k : Nat} {d0 : D} {oc : OC} (h : ExS Γ (fS 57) k (fB 57) [(S "script", .d d0)] (.retO oc)) : CallO Γ (k + 1) (S "_law_draws") [d0] oc :=
  CallO.of (sc := fS 57) (ns := [S "script"]) (isFn 57 _ (by decide +kernel)) rfl (by intro pm code doc vs h; obtain ⟨v0, rfl⟩ := len1 h; rfl) (by decide +kernel) (fa_cons (by first | exact .inl (by decide +kernel) | exact .inr (by decide +kernel)) fa_nil) h
theorem of_law_mul {k : Nat} {d0 d1 d : D} {o : Out} (h : ExS Γ (fS 58) k (fB 58) [(S "one", .d d0), (S "other", .d d1)] o) (ho : o.val d := by rfl) : CallF Γ (k + 1) (S "_law_mul") [d0, d1] d :=
  CallF.of (sc := fS 58) (ns := [S "one", S "other"]) (isFn 58 _ (by decide +kernel)) rfl (by intro pm code doc vs h; obtain ⟨v0, v1, rfl⟩ := len2 h; rfl) (by decide +kernel) (fa_cons (by first | exact .inl (by decide +kernel) | exact .inr (by decide +kernel)) (fa_cons (by first | exact .inl (by decide +kernel) | exact .inr (by decide +kernel)) fa_nil)) h ho
theorem of_law_rat_less {k : Nat} {d0 d1 d : D} {o : Out} (h : ExS Γ (fS 59) k (fB 59) [(S "one", .d d0), (S "other", .d d1)] o) (ho : o.val d := by rfl) : CallF Γ (k + 1) (S "_law_rat_less") [d0, d1] d :=
  CallF.of (sc := fS 59) (ns := [S "one", S "other"]) (isFn 59 _ (by decide +kernel)) rfl (by intro pm code doc vs h; obtain ⟨v0, v1, rfl⟩ := len2 h; rfl) (by decide +kernel) (fa_cons (by first | exact .inl (by decide +kernel) | exact .inr (by decide +kernel)) (fa_cons (by first | exact .inl (by decide +kernel) | exact .inr (by decide +kernel)) fa_nil)) h ho
theorem of_law_rat_above {k : Nat} {d0 d1 d : D} {o : Out} (h : ExS Γ (fS 60) (k + 1) (fB 60) [(S "x", .d d0), (S "told", .d d1)] o) (ho : o.val d := by rfl) : CallF Γ (k + 2) (S "_law_rat_above") [d0, d1] d :=
  CallF.of (sc := fS 60) (ns := [S "x", S "told"]) (isFn 60 _ (by decide +kernel)) rfl (by intro pm code doc vs h; obtain ⟨v0, v1, rfl⟩ := len2 h; rfl) (by decide +kernel) (fa_cons (by first | exact .inl (by decide +kernel) | exact .inr (by decide +kernel)) (fa_cons (by first | exact .inl (by decide +kernel) | exact .inr (by decide +kernel)) fa_nil)) h ho
theorem of_law_root_less {k : Nat} {d0 d1 d : D} {o : Out} (h : ExS Γ (fS 61) (k + 2) (fB 61) [(S "one", .d d0), (S "other", .d d1)] o) (ho : o.val d := by rfl) : CallF Γ (k + 3) (S "_law_root_less") [d0, d1] d :=
  CallF.of (sc := fS 61) (ns := [S "one", S "other"]) (isFn 61 _ (by decide +kernel)) rfl (by intro pm code doc vs h; obtain ⟨v0, v1, rfl⟩ := len2 h; rfl) (by decide +kernel) (fa_cons (by first | exact .inl (by decide +kernel) | exact .inr (by decide +kernel)) (fa_cons (by first | exact .inl (by decide +kernel) | exact .inr (by decide +kernel)) fa_nil)) h ho
theorem of_law_made {k : Nat}  {d : D} {gr mx gr' mx' : Int} (h : ∀ ad, ExS Γ (fS 62) (k + 3) (fB 62) [(S "draws", .own ad (.dr Γ.w gr mx))] (.retN d fun σ' => σ'.lookup (S "draws") = some (.own ad (.dr Γ.w gr' mx')))) : CallD Γ (k + 4) (S "_law_made") gr mx [] d gr' mx' :=
  CallD.of (sc := fS 62) (n0 := S "draws") (ns := []) (isFn 62 _ (by decide +kernel)) rfl (by intro pm code doc vs h; obtain ⟨v0, rfl⟩ := len1 h; rfl) (by decide +kernel) (fa_cons (by first | exact .inl (by decide +kernel) | exact .inr (by decide +kernel)) fa_nil) h
theorem of_law_counted {k : Nat} {d0 d1 d2 d : D} {o : Out} (h : ExS Γ (fS 63) (k + 3) (fB 63) [(S "told", .d d0), (S "low", .d d1), (S "high", .d d2)] o) (ho : o.val d := by rfl) : CallF Γ (k + 4) (S "_law_counted") [d0, d1, d2] d :=
  CallF.of (sc := fS 63) (ns := [S "told", S "low", S "high"]) (isFn 63 _ (by decide +kernel)) rfl (by intro pm code doc vs h; obtain ⟨v0, v1, v2, rfl⟩ := len3 h; rfl) (by decide +kernel) (fa_cons (by first | exact .inl (by decide +kernel) | exact .inr (by decide +kernel)) (fa_cons (by first | exact .inl (by decide +kernel) | exact .inr (by decide +kernel)) (fa_cons (by first | exact .inl (by decide +kernel) | exact .inr (by decide +kernel)) fa_nil))) h ho
theorem of_law_at_most {k : Nat} {d0 d1 d : D} {o : Out} (h : ExS Γ (fS 64) (k + 2) (fB 64) [(S "one", .d d0), (S "x", .d d1)] o) (ho : o.val d := by rfl) : CallF Γ (k + 3) (S "_law_at_most") [d0, d1] d :=
  CallF.of (sc := fS 64) (ns := [S "one", S "x"]) (isFn 64 _ (by decide +kernel)) rfl (by intro pm code doc vs h; obtain ⟨v0, v1, rfl⟩ := len2 h; rfl) (by decide +kernel) (fa_cons (by first | exact .inl (by decide +kernel) | exact .inr (by decide +kernel)) (fa_cons (by first | exact .inl (by decide +kernel) | exact .inr (by decide +kernel)) fa_nil)) h ho
theorem of_law_lowest {k : Nat} {d0 d1 d : D} {o : Out} (h : ExS Γ (fS 65) k (fB 65) [(S "top", .d d0), (S "bottom", .d d1)] o) (ho : o.val d := by rfl) : CallF Γ (k + 1) (S "_law_lowest") [d0, d1] d :=
  CallF.of (sc := fS 65) (ns := [S "top", S "bottom"]) (isFn 65 _ (by decide +kernel)) rfl (by intro pm code doc vs h; obtain ⟨v0, v1, rfl⟩ := len2 h; rfl) (by decide +kernel) (fa_cons (by first | exact .inl (by decide +kernel) | exact .inr (by decide +kernel)) (fa_cons (by first | exact .inl (by decide +kernel) | exact .inr (by decide +kernel)) fa_nil)) h ho
theorem of_law_pieces_right {k : Nat} {d0 d1 d : D} {o : Out} (h : ExS Γ (fS 66) (k + 4) (fB 66) [(S "pieces", .d d0), (S "told", .d d1)] o) (ho : o.val d := by rfl) : CallF Γ (k + 5) (S "_law_pieces_right") [d0, d1] d :=
  CallF.of (sc := fS 66) (ns := [S "pieces", S "told"]) (isFn 66 _ (by decide +kernel)) rfl (by intro pm code doc vs h; obtain ⟨v0, v1, rfl⟩ := len2 h; rfl) (by decide +kernel) (fa_cons (by first | exact .inl (by decide +kernel) | exact .inr (by decide +kernel)) (fa_cons (by first | exact .inl (by decide +kernel) | exact .inr (by decide +kernel)) fa_nil)) h ho
theorem of_law {k : Nat} {d0 d : D} {o : Out} (h : ExS Γ (fS 67) (k + 9) (fB 67) [(S "script", .d d0)] o) (ho : o.val d := by rfl) : CallF Γ (k + 10) (S "law") [d0] d :=
  CallF.of (sc := fS 67) (ns := [S "script"]) (isFn 67 _ (by decide +kernel)) rfl (by intro pm code doc vs h; obtain ⟨v0, rfl⟩ := len1 h; rfl) (by decide +kernel) (fa_cons (by first | exact .inl (by decide +kernel) | exact .inr (by decide +kernel)) fa_nil) h ho
end Mine
end

section
open PySem PySem.W PyProof.Rows PySem.Calls
set_option maxRecDepth 100000
namespace Mine
variable {Γ : Gl} {sc : Scope} {k : Nat} {σ σ1 σ2 σ3 : Ctx}

structure E (Γ : Gl) (sc : Scope) (k : Nat) (e : Expr) (σ : Ctx) (d : D) (σ' : Ctx) : Prop where
  ok : EvE Γ sc k e σ d σ'
structure T (Γ : Gl) (sc : Scope) (k : Nat) (e : Expr) (σ : Ctx) (c : Bool) (σ' : Ctx) : Prop where
  ok : EvT Γ sc k e σ c σ'
structure L (Γ : Gl) (sc : Scope) (k : Nat) (es : List Expr) (σ : Ctx) (ds : List D) (σ' : Ctx) : Prop where
  ok : EvL Γ sc k es σ ds σ'
structure M (Γ : Gl) (sc : Scope) (k : Nat) (es : List Expr) (σ : Ctx) (ds : List MV) (σ' : Ctx) : Prop where
  ok : EvM Γ sc k es σ ds σ'
structure O (Γ : Gl) (sc : Scope) (k : Nat) (e : Expr) (σ : Ctx) (o : OC) (σ' : Ctx) : Prop where
  ok : EvO Γ sc k e σ o σ'
structure I (Γ : Gl) (sc : Scope) (k : Nat) (iter tgt : Expr) (σ : Ctx) (ds : List D) (σ' : Ctx) : Prop where
  ok : EvI Γ sc k iter tgt σ ds σ'
structure A (Γ : Gl) (sc : Scope) (k : Nat) (t : Expr) (σ : Ctx) (d : D) (σ' : Ctx) : Prop where
  ok : AsgD Γ sc k t σ d σ'
structure AL (Γ : Gl) (sc : Scope) (k : Nat) (t : List Expr) (σ : Ctx) (d : List D) (σ' : Ctx) : Prop where
  ok : AsgL Γ sc k t σ d σ'
structure B (Γ : Gl) (k : Nat) (op : Operator) (a b c : D) : Prop where
  ok : BinS Γ k op a b c
structure N (Γ : Gl) (k : Nat) (op : Operator) (a b c : D) : Prop where
  ok : InpS Γ k op a b c
structure C (Γ : Gl) (k : Nat) (op : CmpOp) (a b : D) (c : Bool) : Prop where
  ok : CmpS Γ k op a b c
structure U (Γ : Gl) (k : Nat) (op : UnaryOp) (a c : D) : Prop where
  ok : UnS Γ k op a c
structure R (Γ : Gl) (k : Nat) (a : D) (c : Bool) : Prop where
  ok : TruS Γ k a c
structure G (Γ : Gl) (k : Nat) (a : D) (i : Int) (c : D) : Prop where
  ok : GetS Γ k a i c
structure F (Γ : Gl) (k : Nat) (f : Value) (ds : List D) (d : D) : Prop where
  ok : BiS Γ k f ds d
structure X (Γ : Gl) (sc : Scope) (k : Nat) (ss : List Stmt) (σ : Ctx) (o : Out) : Prop where
  ok : ExS Γ sc k ss σ o
structure W (Γ : Gl) (sc : Scope) (k : Nat) (test : Expr) (body orelse : List Stmt) (σ : Ctx) (o : Out) : Prop where
  ok : ExW Γ sc k test body orelse σ o
structure El (Γ : Gl) (sc : Scope) (k : Nat) (ifs : List Expr) (elt : Expr) (σ σc : Ctx) (o : Option D) : Prop where
  ok : Elt Γ sc k ifs elt σ σc o
structure Cf (Γ : Gl) (k : Nat) (n : Str) (ds : List D) (d : D) : Prop where
  ok : CallF Γ k n ds d
structure Cd (Γ : Gl) (k : Nat) (n : Str) (gr mx : Int) (ds : List D) (d : D) (gr' mx' : Int) : Prop where
  ok : CallD Γ k n gr mx ds d gr' mx'

theorem B.add {a b : Int} : B Γ k .Add (.int a) (.int b) (.int (a + b)) := ⟨BinS.add⟩
theorem B.sub {a b : Int} : B Γ k .Sub (.int a) (.int b) (.int (a - b)) := ⟨BinS.sub⟩
theorem B.subb {a b : Bool} : B Γ k .Sub (.bool a) (.bool b) (.int (b2i a - b2i b)) := ⟨BinS.subb⟩
theorem B.addb {a : Int} {b : Bool} : B Γ k .Add (.int a) (.bool b) (.int (a + if b = true then 1 else 0)) := ⟨BinS.addb⟩
theorem B.mul {a b : Int} (h : IntMulOk a b) : B Γ k .Mult (.int a) (.int b) (.int (a * b)) := ⟨BinS.mul h⟩
theorem B.mod {a b : Int} (h : b ≠ 0) : B Γ k .Mod (.int a) (.int b) (.int (a.fmod b)) := ⟨BinS.fmod h⟩
theorem B.div {a b : Int} (h : b ≠ 0) (h' : b.natAbs.log2 < 9000) : B Γ k .FloorDiv (.int a) (.int b) (.int (a.fdiv b)) := ⟨BinS.fdiv h (PyProof.noPylong_of_log2 h')⟩
theorem B.pow {a n : Int} (hn : 0 ≤ n) (hsz : (Builtin.Int.intBits a : Int) * n ≤ 2 ^ 27) : B Γ k .Pow (.int a) (.int n) (.int (a ^ n.toNat)) := ⟨BinS.pow hn hsz⟩
theorem B.addL {a b : List D} (h : a.length + b.length ≤ 1000) : B Γ k .Add (.list a) (.list b) (.list (a ++ b)) := ⟨BinS.addL h⟩
theorem B.rep {d : D} {n : Int} (h : n ≤ 1000) (h0 : -1000 ≤ n) : B Γ k .Mult (.list [d]) (.int n) (.list (List.replicate n.toNat d)) := ⟨BinS.rep h h0⟩
theorem N.add {a b : Int} : N Γ k .Add (.int a) (.int b) (.int (a + b)) := ⟨InpS.add⟩
theorem N.sub {a b : Int} : N Γ k .Sub (.int a) (.int b) (.int (a - b)) := ⟨InpS.sub⟩
theorem U.neg {a : Int} : U Γ k .USub (.int a) (.int (-a)) := ⟨UnS.neg⟩
theorem U.not {a : D} {c : Bool} (h : R Γ k a c) : U Γ k .Not a (.bool (!c)) := ⟨UnS.not h.ok⟩
theorem R.bool {b : Bool} : R Γ k (.bool b) b := ⟨TruS.bool⟩
theorem C.lt {a b : Int} : C Γ k .Lt (.int a) (.int b) (decide (a < b)) := ⟨CmpS.lt⟩
theorem C.gt {a b : Int} : C Γ k .Gt (.int a) (.int b) (decide (b < a)) := ⟨CmpS.gt⟩
theorem C.eq {a b : Int} : C Γ k .Eq (.int a) (.int b) (a == b) := ⟨CmpS.eq⟩
theorem C.ne {a b : Int} : C Γ k .NotEq (.int a) (.int b) (a != b) := ⟨CmpS.ne⟩
theorem C.le {a b : Int} : C Γ k .LtE (.int a) (.int b) (decide (a ≤ b)) := ⟨CmpS.le⟩
theorem C.ge {a b : Int} : C Γ k .GtE (.int a) (.int b) (decide (a ≥ b)) := ⟨CmpS.ge⟩
theorem C.eqs {a b : Str} : C Γ k .Eq (.str a) (.str b) (a == b) := ⟨CmpS.eqs⟩
theorem C.eqd {a b : D} (ha : SeqAt.shaped a.py = true) (hb : SeqAt.shaped b.py = true) : C Γ k .Eq a b (PyData.eqv a.py b.py) := ⟨CmpS.eq_d ha hb⟩
theorem C.ned {a b : D} (ha : SeqAt.shaped a.py = true) (hb : SeqAt.shaped b.py = true) : C Γ k .NotEq a b (!PyData.eqv a.py b.py) := ⟨CmpS.ne_d ha hb⟩
theorem C.notIn {x : D} {l : List D} (ha : SeqAt.shaped (D.list l).py = true) (hb : SeqAt.shaped x.py = true) : C Γ k .NotIn x (.list l) (!((D.pyL l).any fun y => PyData.eqv y x.py)) := ⟨CmpS.notIn ha hb⟩
theorem isNotNone_none : C Γ k .IsNot .none .none false := ⟨CmpS.isNotNone fun g v a => by cases at_none a; rfl⟩
theorem isNotNone_tup {l : List D} : C Γ k .IsNot (.tup l) .none true := ⟨CmpS.isNotNone fun g v a => by obtain ⟨ad, vs, n, rfl, _⟩ := at_tup a; rfl⟩
theorem G.tup {ds : List D} {i : Int} {j : Nat} {d : D} (hj : idx ds.length i = some j) (hd : ds[j]? = some d) (hn : ds.length ≤ 1000) : G Γ k (.tup ds) i d := ⟨GetS.tup hj hd (by omega)⟩
theorem G.list {ds : List D} {i : Int} {j : Nat} {d : D} (hj : idx ds.length i = some j) (hd : ds[j]? = some d) (hn : ds.length ≤ 1000) : G Γ k (.list ds) i d := ⟨GetS.list hj hd (by omega)⟩
theorem F.abs {i : Int} : F Γ k (.builtin "abs") [.int i] (.int (if i < 0 then -i else i)) := ⟨BiS.abs⟩
theorem F.max2 {i j : Int} : F Γ k (.builtin "max") [.int i, .int j] (.int (if j > i then j else i)) := ⟨BiS.max2⟩
theorem F.len {ds : List D} (h : ds.length ≤ 1000) : F Γ k (.builtin "len") [.list ds] (.int ds.length) := ⟨BiS.lenL (by omega)⟩
theorem F.sum {l : List Int} : F Γ k (.builtin "sum") [il l] (.int l.sum) := ⟨BiS.sum⟩
theorem F.any {l : List Bool} : F Γ k (.builtin "any") [.list (l.map .bool)] (.bool (l.any id)) := ⟨BiS.any⟩
theorem F.list {ds : List D} (h : ds.length ≤ 1000) : F Γ k (.type "list") [.list ds] (.list ds) := ⟨BiS.list (by omega)⟩

theorem E.int {i : Int} {n : Nat} {pos : Pos} : E Γ sc k (.Constant (.int i) n pos) σ (.int i) σ := ⟨EvE.int⟩
theorem E.str {i : Str} {n : Nat} {pos : Pos} : E Γ sc k (.Constant (.str i) n pos) σ (.str i) σ := ⟨EvE.str⟩
theorem E.bool {i : Bool} {n : Nat} {pos : Pos} : E Γ sc k (.Constant (.bool i) n pos) σ (.bool i) σ := ⟨EvE.bool⟩
theorem E.none {n : Nat} {pos : Pos} : E Γ sc k (.Constant .none n pos) σ .none σ := ⟨EvE.none⟩
theorem E.name {x : Str} {pos : Pos} {d : D} (hx : σ.lookup x = some (.d d)) (hd : (x == ("__debug__" : Str)) = false := by decide +kernel) : E Γ sc k (.Name x pos) σ d σ := ⟨EvE.name hx hd⟩
theorem E.nameOwn {x : Str} {pos : Pos} {xs : List D} {a : Addr} (hx : σ.lookup x = some (.own a (.list xs))) (hd : (x == ("__debug__" : Str)) = false := by decide +kernel) : E Γ sc k (.Name x pos) σ (.list xs) (upd σ x (.d (.list xs))) := ⟨EvE.nameOwn hx hd⟩
theorem E.bin {l r : Expr} {op : Operator} {pos : Pos} {a b c : D} (h1 : E Γ sc k l σ a σ1) (h2 : E Γ sc k r σ1 b σ2) (h3 : B Γ k op a b c) : E Γ sc k (.BinOp l op r pos) σ c σ2 := ⟨EvE.bin h1.ok h2.ok h3.ok⟩
theorem E.un {x : Expr} {op : UnaryOp} {pos : Pos} {a c : D} (h1 : E Γ sc k x σ a σ1) (h3 : U Γ k op a c) : E Γ sc k (.UnaryOp op x pos) σ c σ1 := ⟨EvE.un h1.ok h3.ok⟩
theorem E.cmp {l r : Expr} {op : CmpOp} {pos : Pos} {a b : D} {c : Bool} (h1 : E Γ sc k l σ a σ1) (h2 : E Γ sc k r σ1 b σ2) (h3 : C Γ k op a b c) (hm : behindInMarks op r = false := by with_unfolding_all rfl) : E Γ sc k (.Compare l [op] [r] pos) σ (.bool c) σ2 := ⟨EvE.cmp h1.ok h2.ok h3.ok hm⟩
theorem E.ite {test body orelse : Expr} {pos : Pos} {c : Bool} {d : D} (h1 : T Γ sc k test σ c σ1) (ht : c = true → E Γ sc k body σ1 d σ2) (hf : c = false → E Γ sc k orelse σ1 d σ2) : E Γ sc k (.IfExp test body orelse pos) σ d σ2 := ⟨EvE.ite h1.ok (fun h => (ht h).ok) fun h => (hf h).ok⟩
theorem E.cond {test body orelse : Expr} {pos : Pos} {c : Bool} {d d' : D} (h1 : T Γ sc k test σ c σ1) (ht : c = true → E Γ sc k body σ1 d σ2) (hf : c = false → E Γ sc k orelse σ1 d' σ2) : E Γ sc k (.IfExp test body orelse pos) σ (if c = true then d else d') σ2 :=
  ⟨EvE.ite h1.ok (fun h => by rw [if_pos h]; exact (ht h).ok) fun h => by rw [if_neg (by rw [h]; decide)]; exact (hf h).ok⟩
theorem E.condI {test body orelse : Expr} {pos : Pos} {c : Bool} {d d' : Int} (h1 : T Γ sc k test σ c σ1) (ht : c = true → E Γ sc k body σ1 (.int d) σ2) (hf : c = false → E Γ sc k orelse σ1 (.int d') σ2) : E Γ sc k (.IfExp test body orelse pos) σ (.int (if c = true then d else d')) σ2 :=
  ⟨EvE.ite h1.ok (fun h => by rw [if_pos h]; exact (ht h).ok) fun h => by rw [if_neg (by rw [h]; decide)]; exact (hf h).ok⟩
theorem E.and {x y : Expr} {pos : Pos} {c c' : Bool} (h1 : E Γ sc k x σ (.bool c) σ1) (h2 : c = true → E Γ sc k y σ1 (.bool c') σ1) : E Γ sc k (.BoolOp .And [x, y] pos) σ (.bool (c && c')) σ1 := ⟨EvE.and h1.ok fun h => (h2 h).ok⟩
theorem E.or {x y : Expr} {pos : Pos} {c c' : Bool} (h1 : E Γ sc k x σ (.bool c) σ1) (h2 : c = false → E Γ sc k y σ1 (.bool c') σ1) : E Γ sc k (.BoolOp .Or [x, y] pos) σ (.bool (c || c')) σ1 := ⟨EvE.or h1.ok fun h => (h2 h).ok⟩
theorem E.tup {es : List Expr} {n : Nat} {pos : Pos} {ds : List D} (h1 : L Γ sc k es σ ds σ1) (hn : ds.length ≤ 1000) : E Γ sc k (.Tuple es n pos) σ (.tup ds) σ1 := ⟨EvE.tup h1.ok hn⟩
theorem E.lst {es : List Expr} {pos : Pos} {ds : List D} (h1 : L Γ sc k es σ ds σ1) (hn : ds.length ≤ 1000) : E Γ sc k (.List es pos) σ (.list ds) σ1 := ⟨EvE.lst h1.ok hn⟩
theorem E.sub {value ix : Expr} {pos : Pos} {a c : D} {i : Int} (h1 : E Γ sc k value σ a σ1) (h2 : E Γ sc k ix σ1 (.int i) σ2) (h3 : G Γ k a i c) (hs : NoSlice ix := by intro _ _; with_unfolding_all rfl) : E Γ sc k (.Subscript value ix pos) σ c σ2 := ⟨EvE.sub h1.ok h2.ok h3.ok hs⟩
theorem E.upto {value hi : Expr} {p pos : Pos} {ds : List D} {b : Int} (h1 : E Γ sc k value σ (.list ds) σ1) (h3 : E Γ sc k hi σ1 (.int b) σ2) (hb : 0 ≤ b) (hn : ds.length ≤ 1000) : E Γ sc k (.Subscript value (.Slice .none (some hi) .none p) pos) σ (.list (ds.take b.toNat)) σ2 := ⟨EvE.upto h1.ok h3.ok hb (by omega)⟩
theorem E.from {value lo : Expr} {p pos : Pos} {ds : List D} {b : Int} (h1 : E Γ sc k value σ (.list ds) σ1) (h3 : E Γ sc k lo σ1 (.int b) σ2) (hb : 0 ≤ b) (hn : ds.length ≤ 1000) : E Γ sc k (.Subscript value (.Slice (some lo) .none .none p) pos) σ (.list (ds.drop b.toNat)) σ2 := ⟨EvE.from h1.ok h3.ok hb (by omega)⟩
theorem E.bcall {n : Str} {id : String} {e : Expr} {es : List Expr} {np pos : Pos} {ds : List D} {d : D} (hB : IsB n (.builtin id)) (h1 : L Γ sc k (e :: es) σ ds σ1) (h2 : F Γ k (.builtin id) ds d) (hx : sc.names.lookup n = some .globalImplicit)
    (he : ∀ env, starEach (e :: es) env = (false, eval e env) :: starEach es env := by intro _; with_unfolding_all rfl) (hp : ∀ env, (backTo pos (starEach es env)).any (·.1) = false := by intro _; with_unfolding_all rfl) (hd : (n == ("__debug__" : Str)) = false := by decide +kernel) :
    E Γ sc k (.Call (.Name n np) (e :: es) [] pos) σ d σ1 := ⟨EvE.bcall h1.ok h2.ok hx hB he hp hd⟩
theorem E.tcall {n : Str} {id : String} {e : Expr} {es : List Expr} {np pos : Pos} {ds : List D} {d : D} (hB : IsB n (.type id)) (h1 : L Γ sc k (e :: es) σ ds σ1) (h2 : F Γ k (.type id) ds d) (hx : sc.names.lookup n = some .globalImplicit)
    (he : ∀ env, starEach (e :: es) env = (false, eval e env) :: starEach es env := by intro _; with_unfolding_all rfl) (hp : ∀ env, (backTo pos (starEach es env)).any (·.1) = false := by intro _; with_unfolding_all rfl) (hd : (n == ("__debug__" : Str)) = false := by decide +kernel) :
    E Γ sc k (.Call (.Name n np) (e :: es) [] pos) σ d σ1 := ⟨EvE.tcall h1.ok h2.ok hx hB he hp hd⟩
theorem E.call {n : Str} {e : Expr} {es : List Expr} {np pos : Pos} {ds : List D} {d : D} (h1 : L Γ sc k (e :: es) σ ds σ1) (h2 : Cf Γ k n ds d) (hx : sc.names.lookup n = some .globalImplicit)
    (he : ∀ env, starEach (e :: es) env = (false, eval e env) :: starEach es env := by intro _; with_unfolding_all rfl) (hp : ∀ env, (backTo pos (starEach es env)).any (·.1) = false := by intro _; with_unfolding_all rfl) (hd : (n == ("__debug__" : Str)) = false := by decide +kernel) :
    E Γ sc k (.Call (.Name n np) (e :: es) [] pos) σ d σ1 := ⟨EvE.call h1.ok h2.ok hx he hp hd⟩
theorem E.callD {n x : Str} {es : List Expr} {np px pos : Pos} {ds : List D} {d : D} {a : Addr} {gr mx gr' mx' : Int} (hx : σ.lookup x = some (.own a (.dr Γ.w gr mx))) (h1 : L Γ sc k es σ ds σ) (h2 : Cd Γ k n gr mx ds d gr' mx') (hn : sc.names.lookup n = some .globalImplicit)
    (he : ∀ env, starEach (.Name x px :: es) env = (false, eval (.Name x px) env) :: starEach es env := by intro _; with_unfolding_all rfl) (hp : ∀ env, (backTo pos (starEach es env)).any (·.1) = false := by intro _; with_unfolding_all rfl) (hd : (n == ("__debug__" : Str)) = false := by decide +kernel) (hdx : (x == ("__debug__" : Str)) = false := by decide +kernel) :
    E Γ sc k (.Call (.Name n np) (.Name x px :: es) [] pos) σ d (upd σ x (.own a (.dr Γ.w gr' mx'))) := ⟨EvE.callD hx h1.ok hx h2.ok hn he hp hd hdx⟩
theorem E.comp {scope : Scope} {σc : Ctx} {elt tgt iter : Expr} {ifs : List Expr} {pos : Pos} {ds res : List D} (hI : I Γ sc k iter tgt σ ds σ1) (hok : compOk scope sc = true) (hi : Inner scope σ1 σc)
    (hds : ds.length ≤ 1000) (out : Nat → Option D) (turn : ∀ i d, ds[i]? = some d → ∃ σ3, A Γ (relabS scope sc) k tgt σc d σ3 ∧ El Γ (relabS scope sc) k ifs elt σ3 σc (out i)) (hres : outsTo out ds.length = res)
    (hs : ∀ env x, foldedSetIterable iter env x = pure x := by intro _ _; with_unfolding_all rfl) : E Γ sc k (.ListComp elt [⟨tgt, iter, ifs, 0⟩] scope pos) σ (.list res) σ1 :=
  ⟨EvE.comp hI.ok hok hi hds out (fun i d h => let ⟨σ3, h1, h2⟩ := turn i d h; ⟨σ3, h1.ok, h2.ok⟩) hres hs⟩
theorem E.append {x : Str} {px apos pos : Pos} {a : Addr} {xs : List D} {e : Expr} {d : D} (hx : σ.lookup x = some (.own a (.list xs))) (h : E Γ sc k e σ d σ1) (hx1 : σ1.lookup x = some (.own a (.list xs))) (hn : xs.length ≤ 1000) (hline : (apos.endLine == pos.line) = true := by with_unfolding_all rfl)
    (hs : ∀ env, starEach [e] env = [(false, eval e env)] := by intro _; with_unfolding_all rfl) (hbase : ∀ env, attributeBase (.Name x px) (Str.ofString "append") env (eval (.Name x px) env) = eval (.Name x px) env := by intro _; with_unfolding_all rfl) (hd : (x == ("__debug__" : Str)) = false := by decide +kernel) :
    E Γ sc k (.Call (.Attribute (.Name x px) (Str.ofString "append") apos) [e] [] pos) σ .none (upd σ1 x (.own a (.list (xs ++ [d])))) := ⟨EvE.append hx h.ok hx1 hn hline hs hbase hd⟩
theorem E.lenOwn {x : Str} {px pos np : Pos} {a : Addr} {xs : List D} (hx : σ.lookup x = some (.own a (.list xs))) (hn : xs.length ≤ 1000) (hsc : sc.names.lookup (Str.ofString "len") = some .globalImplicit) (hd : (x == ("__debug__" : Str)) = false := by decide +kernel) :
    E Γ sc k (.Call (.Name (Str.ofString "len") np) [.Name x px] [] pos) σ (.int xs.length) σ := ⟨EvE.lenOwn hx hn hsc hd⟩
theorem E.subOwn {x : Str} {px pos : Pos} {ix : Expr} {a : Addr} {xs : List D} {i : Int} {j : Nat} {d : D} (hx : σ.lookup x = some (.own a (.list xs))) (h2 : E Γ sc k ix σ (.int i) σ1) (hx1 : σ1.lookup x = some (.own a (.list xs)))
    (hj : idx xs.length i = some j) (hd : xs[j]? = some d) (hn : xs.length ≤ 1000) (hs : NoSlice ix := by intro _ _; with_unfolding_all rfl) (hdb : (x == ("__debug__" : Str)) = false := by decide +kernel) : E Γ sc k (.Subscript (.Name x px) ix pos) σ d σ1 := ⟨EvE.subOwn hx h2.ok hx1 hj hd (by omega) hs hdb⟩
theorem E.conv {e : Expr} {d d' : D} (h : E Γ sc k e σ d σ1) (e' : d = d') : E Γ sc k e σ d' σ1 := e' ▸ h

theorem L.nil : L Γ sc k [] σ [] σ := ⟨EvL.nil⟩
theorem L.cons {e : Expr} {rest : List Expr} {d : D} {ds : List D} (h1 : E Γ sc k e σ d σ1) (h2 : L Γ sc k rest σ1 ds σ2) (he : ∀ env, starEach (e :: rest) env = (false, eval e env) :: starEach rest env := by intro _; with_unfolding_all rfl) : L Γ sc k (e :: rest) σ (d :: ds) σ2 := ⟨EvL.cons h1.ok h2.ok he⟩
theorem M.nil : M Γ sc k [] σ [] σ := ⟨EvM.nil⟩
theorem M.d {e : Expr} {rest : List Expr} {d : D} {ds : List MV} (h1 : E Γ sc k e σ d σ1) (h2 : M Γ sc k rest σ1 ds σ2) (he : ∀ env, starEach (e :: rest) env = (false, eval e env) :: starEach rest env := by intro _; with_unfolding_all rfl) : M Γ sc k (e :: rest) σ (.d d :: ds) σ2 := ⟨EvM.d h1.ok h2.ok he⟩
theorem M.o {e : Expr} {rest : List Expr} {o : OC} {ds : List MV} (h1 : O Γ sc k e σ o σ1) (h2 : M Γ sc k rest σ1 ds σ2) (he : ∀ env, starEach (e :: rest) env = (false, eval e env) :: starEach rest env := by intro _; with_unfolding_all rfl) : M Γ sc k (e :: rest) σ (.o o :: ds) σ2 := ⟨EvM.o h1.ok h2.ok he⟩
theorem O.lst {es : List Expr} {pos : Pos} {ds : List D} (h1 : L Γ sc k es σ ds σ1) (hn : ds.length ≤ 1000) : O Γ sc k (.List es pos) σ (.list ds) σ1 := ⟨EvO.lst h1.ok hn⟩
theorem O.rep {l r : Expr} {pos : Pos} {d : D} {n : Int} (h1 : E Γ sc k l σ (.list [d]) σ1) (h2 : E Γ sc k r σ1 (.int n) σ2) (h : n ≤ 1000) (h0 : -1000 ≤ n) : O Γ sc k (.BinOp l .Mult r pos) σ (.list (List.replicate n.toNat d)) σ2 := ⟨EvO.rep h1.ok h2.ok h h0⟩

theorem T.cmp {l r : Expr} {op : CmpOp} {pos : Pos} {a b : D} {c : Bool} (h1 : E Γ sc k l σ a σ1) (h2 : E Γ sc k r σ1 b σ2) (h3 : C Γ k op a b c) (hm : behindInMarks op r = false := by with_unfolding_all rfl) : T Γ sc k (.Compare l [op] [r] pos) σ c σ2 := ⟨EvT.cmp h1.ok h2.ok h3.ok hm⟩
theorem T.not {x : Expr} {pos : Pos} {c : Bool} (h1 : T Γ sc k x σ c σ1) : T Γ sc k (.UnaryOp .Not x pos) σ (!c) σ1 := ⟨EvT.not h1.ok⟩
theorem T.value {e : Expr} {a : D} {c : Bool} (h1 : E Γ sc k e σ a σ1) (h2 : R Γ k a c) (he : ∀ env whole, isTrue e env whole = (do let v ← whole; standAt e.pos; holding [v] (truthy v)) := by intros; with_unfolding_all rfl) : T Γ sc k e σ c σ1 := ⟨EvT.value h1.ok h2.ok he⟩
theorem T.and {x y : Expr} {pos : Pos} {c c' : Bool} (h1 : T Γ sc k x σ c σ1) (h2 : c = true → T Γ sc k y σ1 c' σ1) : T Γ sc k (.BoolOp .And [x, y] pos) σ (c && c') σ1 := ⟨EvT.and h1.ok fun h => (h2 h).ok⟩
theorem T.or {x y : Expr} {pos : Pos} {c c' : Bool} (h1 : T Γ sc k x σ c σ1) (h2 : c = false → T Γ sc k y σ1 c' σ1) : T Γ sc k (.BoolOp .Or [x, y] pos) σ (c || c') σ1 := ⟨EvT.or h1.ok fun h => (h2 h).ok⟩
theorem T.ownNe {x : Str} {px pos pl : Pos} {a : Addr} {xs : List D} (hx : σ.lookup x = some (.own a (.list xs))) (hok : SeqAt.shaped (D.list xs).py = true) (hd : (x == ("__debug__" : Str)) = false := by decide +kernel) :
    T Γ sc k (.Compare (.Name x px) [.NotEq] [.List [] pl] pos) σ (!xs.isEmpty) σ := ⟨EvT.ownNe hx hok hd⟩
theorem T.conv {e : Expr} {c c' : Bool} (h : T Γ sc k e σ c σ1) (e' : c = c') : T Γ sc k e σ c' σ1 := e' ▸ h
theorem El.some {elt : Expr} {σc : Ctx} {d : D} (h : E Γ sc k elt σ d σ1) (hs : σ1.has σc) : El Γ sc k [] elt σ σc (Option.some d) := ⟨_, _, Tests.nil, h.ok, hs⟩
theorem El.test {elt t : Expr} {σc : Ctx} {d : D} {c : Bool} (ht : T Γ sc k t σ c σ1) (h : c = true → E Γ sc k elt σ1 d σ1) (hs : σ1.has σc) : El Γ sc k [t] elt σ σc (if c = true then Option.some d else Option.none) := by
  cases c with
  | true => exact ⟨_, _, Tests.one ht.ok, (h rfl).ok, hs⟩
  | false => exact ⟨_, Tests.one ht.ok, hs⟩

theorem I.list {iter : Expr} {x : Str} {px : Pos} {ds : List D} (h : E Γ sc k iter σ (.list ds) σ1) : I Γ sc k iter (.Name x px) σ ds σ1 := ⟨EvI.list h.ok⟩
theorem I.tup {iter : Expr} {x : Str} {px : Pos} {ds : List D} (h : E Γ sc k iter σ (.tup ds) σ1) : I Γ sc k iter (.Name x px) σ ds σ1 := ⟨EvI.tup h.ok⟩
theorem I.range1 {e : Expr} {x : Str} {px np pos : Pos} {n : Int} (h1 : E Γ sc k e σ (.int n) σ1) (hn : -1000 ≤ n ∧ n ≤ 1000) (hx : sc.names.lookup (Str.ofString "range") = some .globalImplicit) (he : ∀ env, starEach [e] env = (false, eval e env) :: starEach [] env := by intro _; with_unfolding_all rfl) :
    I Γ sc k (.Call (.Name (Str.ofString "range") np) [e] [] pos) (.Name x px) σ (rangeD 0 n.toNat) σ1 := ⟨EvI.range1 h1.ok hn hx he⟩
theorem I.range2 {e e' : Expr} {x : Str} {px np pos : Pos} {m n : Int} (h1 : L Γ sc k [e, e'] σ [.int m, .int n] σ1) (hm : -1000 ≤ m ∧ m ≤ 1000) (hn : -1000 ≤ n ∧ n ≤ 1000) (hx : sc.names.lookup (Str.ofString "range") = some .globalImplicit)
    (he : ∀ env, starEach [e, e'] env = (false, eval e env) :: starEach [e'] env := by intro _; with_unfolding_all rfl) (hp : ∀ env, (backTo pos (starEach [e'] env)).any (·.1) = false := by intro _; with_unfolding_all rfl) : I Γ sc k (.Call (.Name (Str.ofString "range") np) [e, e'] [] pos) (.Name x px) σ (rangeD m (n - m).toNat) σ1 := ⟨EvI.range2 h1.ok hm hn hx he hp⟩
theorem I.rev {e : Expr} {x : Str} {px np pos : Pos} {ds : List D} (h1 : E Γ sc k e σ (.list ds) σ1) (hx : sc.names.lookup (Str.ofString "reversed") = some .globalImplicit) (he : ∀ env, starEach [e] env = (false, eval e env) :: starEach [] env := by intro _; with_unfolding_all rfl) :
    I Γ sc k (.Call (.Name (Str.ofString "reversed") np) [e] [] pos) (.Name x px) σ ds.reverse σ1 := ⟨EvI.rev h1.ok hx he⟩
theorem I.enum {e : Expr} {ts : List Expr} {n : Nat} {np pos tp : Pos} {ds : List D} (h1 : E Γ sc k e σ (.list ds) σ1) (hx : sc.names.lookup (Str.ofString "enumerate") = some .globalImplicit) (he : ∀ env, starEach [e] env = (false, eval e env) :: starEach [] env := by intro _; with_unfolding_all rfl) :
    I Γ sc k (.Call (.Name (Str.ofString "enumerate") np) [e] [] pos) (.Tuple ts n tp) σ (enumD 0 ds) σ1 := ⟨EvI.enum h1.ok hx he⟩
theorem A.name {x : Str} {pos : Pos} {d : D} (hx : Stored sc x) : A Γ sc k (.Name x pos) σ d (upd σ x (.d d)) := ⟨AsgD.name hx⟩
theorem A.tup {ts : List Expr} {n : Nat} {pos : Pos} {ds : List D} (h : AL Γ sc k ts σ ds σ1) (hn : ∀ env, (assignEach ts env).length = ds.length := by intro _; with_unfolding_all rfl) (hstar : ∀ env, (assignEach ts env).findIdx? (·.1) = none := by intro _; with_unfolding_all rfl) :
    A Γ sc k (.Tuple ts n pos) σ (.tup ds) σ1 := ⟨AsgD.tup h.ok hn hstar⟩
theorem A.dset {x key : Str} {px pos kp : Pos} {a : Addr} {gr mx i gr' mx' : Int} {kn : Nat} (hx : σ.lookup x = some (.own a (.dr Γ.w gr mx)))
    (hk : (key = Str.ofString "great" ∧ gr' = i ∧ mx' = mx) ∨ (key = Str.ofString "mixed" ∧ gr' = gr ∧ mx' = i)) (hd : (x == ("__debug__" : Str)) = false := by decide +kernel) :
    A Γ sc k (.Subscript (.Name x px) (.Constant (.str key) kn kp) pos) σ (.int i) (upd σ x (.own a (.dr Γ.w gr' mx'))) := ⟨AsgD.dset hx hk hd⟩
theorem AL.nil : AL Γ sc k [] σ [] σ := ⟨AsgL.nil⟩
theorem AL.cons {t : Expr} {ts : List Expr} {d : D} {ds : List D} (h1 : A Γ sc k t σ d σ1) (h2 : AL Γ sc k ts σ1 ds σ2) (he : ∀ env, (assignEach (t :: ts) env).map (·.2) = assign t env :: (assignEach ts env).map (·.2) := by intro _; with_unfolding_all rfl) : AL Γ sc k (t :: ts) σ (d :: ds) σ2 := ⟨AsgL.cons h1.ok h2.ok he⟩

theorem X.nil : X Γ sc k [] σ (.to σ) := ⟨ExS.nil⟩
theorem X.done {J : Ctx → Prop} (h : J σ) : X Γ sc k [] σ (.next J) := ⟨fun A env P g s Q R S q => wpAny_execs_nil (q _ _ _ _ _ h Step.refl S)⟩
theorem X.ret {e : Expr} {pos : Pos} {rest : List Stmt} {d : D} (h1 : E Γ sc k e σ d σ1) : X Γ sc k (.Return (some e) pos :: rest) σ (.ret d) := ⟨ExS.ret (Ex1.ret h1.ok)⟩
theorem X.retN {e : Expr} {pos : Pos} {rest : List Stmt} {d : D} {J : Ctx → Prop} (h1 : E Γ sc k e σ d σ1) (hJ : J σ1) : X Γ sc k (.Return (some e) pos :: rest) σ (.retN d J) := ⟨ExS.retN (Ex1.retN h1.ok hJ)⟩
theorem X.retO {e : Expr} {pos : Pos} {rest : List Stmt} {o : OC} (h1 : O Γ sc k e σ o σ1) : X Γ sc k (.Return (some e) pos :: rest) σ (.retO o) := ⟨ExS.retO (Ex1.retO h1.ok)⟩
theorem X.assign {e : Expr} {x : Str} {p' pos : Pos} {rest : List Stmt} {d : D} {o : Out} (h1 : E Γ sc k e σ d σ1) (hx : Stored sc x) (h : X Γ sc k rest (upd σ1 x (.d d)) o) (hs : ∀ env, swapsWith e (some (.Name x p')) pos.line env = pure false := by intro _; with_unfolding_all rfl) :
    X Γ sc k (.Assign [.Name x p'] e pos :: rest) σ o := ⟨ExS.cons (Ex1.assign h1.ok hx hs) h.ok⟩
theorem X.assignO {e : Expr} {x : Str} {p' pos : Pos} {rest : List Stmt} {oc : OC} {o : Out} (h1 : O Γ sc k e σ oc σ1) (hx : Stored sc x) (h : ∀ a, X Γ sc k rest (upd σ1 x (.own a oc)) o) (hs : ∀ env, swapsWith e (some (.Name x p')) pos.line env = pure false := by intro _; with_unfolding_all rfl) :
    X Γ sc k (.Assign [.Name x p'] e pos :: rest) σ o := ⟨ExS.consN (Ex1.assignO h1.ok hx hs) fun σ' ⟨a, e⟩ => e ▸ (h a).ok⟩
theorem X.assignComp {scope : Scope} {σc : Ctx} {elt tgt iter : Expr} {ifs : List Expr} {pos p' spos : Pos} {rest : List Stmt} {o : Out} {y : Str} {ds res : List D} (hI : I Γ sc k iter tgt σ ds σ1) (hok : compOk scope sc = true) (hi : Inner scope σ1 σc)
    (hds : ds.length ≤ 1000) (out : Nat → Option D) (turn : ∀ i d, ds[i]? = some d → ∃ σ3, A Γ (relabS scope sc) k tgt σc d σ3 ∧ El Γ (relabS scope sc) k ifs elt σ3 σc (out i)) (hres : outsTo out ds.length = res) (hy : Stored sc y) (h : X Γ sc k rest (upd σ1 y (.d (.list res))) o)
    (hsw : ∀ env, env.scope = sc → swapsWith (.ListComp elt [⟨tgt, iter, ifs, 0⟩] scope pos) (some (.Name y p')) spos.line env = pure true := by intro env h; rcases env with ⟨⟩; cases h; with_unfolding_all rfl)
    (hs : ∀ env x, foldedSetIterable iter env x = pure x := by intro _ _; with_unfolding_all rfl) : X Γ sc k (.Assign [.Name y p'] (.ListComp elt [⟨tgt, iter, ifs, 0⟩] scope pos) spos :: rest) σ o :=
  ⟨ExS.cons (Ex1.assignComp hI.ok hok hi hds out (fun i d h => let ⟨σ3, h1, h2⟩ := turn i d h; ⟨σ3, h1.ok, h2.ok⟩) hres hy hsw hs) h.ok⟩
theorem X.aug {e : Expr} {x : Str} {op : Operator} {p' pos : Pos} {rest : List Stmt} {a b c : D} {o : Out} (ha : σ.lookup x = some (.d a)) (h1 : E Γ sc k e σ b σ1) (h2 : N Γ k op a b c) (hx : Stored sc x) (h : X Γ sc k rest (upd σ1 x (.d c)) o) :
    X Γ sc k (.AugAssign (.Name x p') op e pos :: rest) σ o := ⟨ExS.cons (Ex1.aug ha h1.ok h2.ok hx) h.ok⟩
theorem X.expr {e : Expr} {pos : Pos} {rest : List Stmt} {d : D} {o : Out} (h1 : E Γ sc k e σ d σ1) (h : X Γ sc k rest σ1 o) (hi : ∀ env, env.scope = sc → interactive env = false := by intro env h; unfold interactive; rw [h]; with_unfolding_all rfl) (hs : ∀ env, swapsWith e none pos.line env = pure false := by intro _; with_unfolding_all rfl) :
    X Γ sc k (.Expr e pos :: rest) σ o := ⟨ExS.cons (Ex1.expr h1.ok hi hs) h.ok⟩
theorem X.ite {test : Expr} {body orelse : List Stmt} {pos : Pos} {rest : List Stmt} {c : Bool} {J : Ctx → Prop} {o : Out} (h1 : T Γ sc k test σ c σ1) (ht : c = true → X Γ sc k body σ1 (.next J)) (hf : c = false → X Γ sc k orelse σ1 (.next J)) (h : ∀ σ2, J σ2 → X Γ sc k rest σ2 o) :
    X Γ sc k (.If test body orelse pos :: rest) σ o := ⟨ExS.consN (Ex1.ite h1.ok (fun h => (ht h).ok) fun h => (hf h).ok) fun σ' hj => (h σ' hj).ok⟩
theorem X.iteR {test : Expr} {body orelse : List Stmt} {pos : Pos} {rest : List Stmt} {d : D} (h1 : T Γ sc k test σ true σ1) (ht : X Γ sc k body σ1 (.ret d)) : X Γ sc k (.If test body orelse pos :: rest) σ (.ret d) :=
  ⟨ExS.ret (Ex1.ite h1.ok (fun _ => ht.ok) fun h => by cases h)⟩
theorem X.iteRN {test : Expr} {body orelse : List Stmt} {pos : Pos} {rest : List Stmt} {d : D} {J : Ctx → Prop} (h1 : T Γ sc k test σ true σ1) (ht : X Γ sc k body σ1 (.retN d J)) : X Γ sc k (.If test body orelse pos :: rest) σ (.retN d J) :=
  ⟨ExS.retN (Ex1.ite h1.ok (fun _ => ht.ok) fun h => by cases h)⟩
theorem X.iteT {test : Expr} {body orelse : List Stmt} {pos : Pos} {rest : List Stmt} {o : Out} (h1 : T Γ sc k test σ true σ1) (ht : X Γ sc k body σ1 (.to σ2)) (h : X Γ sc k rest σ2 o) : X Γ sc k (.If test body orelse pos :: rest) σ o :=
  ⟨ExS.cons (Ex1.ite h1.ok (fun _ => ht.ok) fun h => by cases h) h.ok⟩
theorem X.iteF {test : Expr} {body orelse : List Stmt} {pos : Pos} {rest : List Stmt} {o : Out} (h1 : T Γ sc k test σ false σ1) (hf : X Γ sc k orelse σ1 (.to σ2)) (h : X Γ sc k rest σ2 o) : X Γ sc k (.If test body orelse pos :: rest) σ o :=
  ⟨ExS.cons (Ex1.ite h1.ok (fun h => by cases h) fun _ => hf.ok) h.ok⟩
theorem X.skip {test : Expr} {body : List Stmt} {pos : Pos} {rest : List Stmt} {o : Out} (h1 : T Γ sc k test σ false σ1) (h : X Γ sc k rest σ1 o) : X Γ sc k (.If test body [] pos :: rest) σ o := X.iteF h1 X.nil h
theorem X.unpack {ts : List Expr} {e : Expr} {n : Nat} {tp pos : Pos} {rest : List Stmt} {d : D} {o : Out} (h1 : E Γ sc k e σ d σ1) (h2 : A Γ sc k (.Tuple ts n tp) σ1 d σ2) (h : X Γ sc k rest σ2 o)
    (hs : ∀ env, swapsWithSole [.Tuple ts n tp] e pos.line env = pure false := by intro _; with_unfolding_all rfl) (hw : ∀ env, env.scope = sc → swappedStores [.Tuple ts n tp] e env = pure none := by intro env h; rcases env with ⟨⟩; cases h; with_unfolding_all rfl) :
    X Γ sc k (.Assign [.Tuple ts n tp] e pos :: rest) σ o := ⟨ExS.cons (Ex1.unpack h1.ok h2.ok hs hw) h.ok⟩
theorem X.swapR {ts es : List Expr} {n n' : Nat} {tp ep pos : Pos} {rest : List Stmt} {ns : List Str} {ms : List MV} {o : Out} (hl : ns.length = ms.length) (h1 : M Γ sc k es σ ms σ1) (hx : ∀ n ∈ ns, Stored sc n) (hN : ns.Nodup) (h : ∀ T, T.length = owns ms → X Γ sc k rest (updAll σ1 ns (fill ms T)) o)
    (hw : ∀ env, env.scope = sc → swappedStores [.Tuple ts n tp] (.Tuple es n' ep) env = pure (some ns) := by intro env h; rcases env with ⟨⟩; cases h; with_unfolding_all rfl) (hn : ns.length ≤ 1000 := by decide) :
    X Γ sc k (.Assign [.Tuple ts n tp] (.Tuple es n' ep) pos :: rest) σ o := ⟨ExS.consN (Ex1.assignTR h1.ok hl hx hN hw hn) fun σ' ⟨T, hT, e⟩ => e ▸ (h T hT).ok⟩
theorem X.swapF {ts es : List Expr} {n n' : Nat} {tp ep pos : Pos} {rest : List Stmt} {ns : List Str} {ms : List MV} {o : Out} (hN : NamesOf ts ns) (hl : ns.length = ms.length) (h1 : M Γ sc k es σ ms σ1) (hx : ∀ n ∈ ns, Stored sc n) (h : ∀ T, T.length = owns ms → X Γ sc k rest (updAll σ1 ns (fill ms T)) o)
    (hw : ∀ env, env.scope = sc → swappedStores [.Tuple ts n tp] (.Tuple es n' ep) env = pure none := by intro env h; rcases env with ⟨⟩; cases h; with_unfolding_all rfl) (hn : ns.length ≤ 1000 := by decide) :
    X Γ sc k (.Assign [.Tuple ts n tp] (.Tuple es n' ep) pos :: rest) σ o := ⟨ExS.consN (Ex1.assignTF h1.ok hN hl hx hw hn) fun σ' ⟨T, hT, e⟩ => e ▸ (h T hT).ok⟩
theorem X.setItem {x : Str} {px p' pos : Pos} {a : Addr} {xs : List D} {e ix : Expr} {i : Int} {d : D} {rest : List Stmt} {o : Out} (h1 : E Γ sc k e σ d σ1) (hx : σ1.lookup x = some (.own a (.list xs))) (h' : E Γ sc k ix σ1 (.int i) σ2) (hx1 : σ2.lookup x = some (.own a (.list xs))) (hn : xs.length ≤ 1000) (hi : 0 ≤ i) (hi' : i < xs.length)
    (h : X Γ sc k rest (upd σ2 x (.own a (.list (xs.set i.toNat d)))) o) (hs : ∀ env, swapsWith e (some (.Subscript (.Name x px) ix p')) pos.line env = pure false := by intro _; with_unfolding_all rfl) (hd : (x == ("__debug__" : Str)) = false := by decide +kernel) :
    X Γ sc k (.Assign [.Subscript (.Name x px) ix p'] e pos :: rest) σ o := ⟨ExS.cons (Ex1.setItem h1.ok hx h'.ok hx1 hn hi hi' hs hd) h.ok⟩
theorem X.dset {x key : Str} {px p' pos kp : Pos} {a : Addr} {gr mx i gr' mx' : Int} {kn : Nat} {e : Expr} {rest : List Stmt} {o : Out} (h1 : E Γ sc k e σ (.int i) σ1) (hx : σ1.lookup x = some (.own a (.dr Γ.w gr mx)))
    (hk : (key = Str.ofString "great" ∧ gr' = i ∧ mx' = mx) ∨ (key = Str.ofString "mixed" ∧ gr' = gr ∧ mx' = i)) (h : X Γ sc k rest (upd σ1 x (.own a (.dr Γ.w gr' mx'))) o)
    (hs : ∀ env, swapsWith e (some (.Subscript (.Name x px) (.Constant (.str key) kn kp) p')) pos.line env = pure false := by intro _; with_unfolding_all rfl) (hd : (x == ("__debug__" : Str)) = false := by decide +kernel) :
    X Γ sc k (.Assign [.Subscript (.Name x px) (.Constant (.str key) kn kp) p'] e pos :: rest) σ o := ⟨ExS.cons (Ex1.dset h1.ok hx hk hs hd) h.ok⟩
theorem X.for {tgt iter : Expr} {body : List Stmt} {pos : Pos} {ds : List D} {rest : List Stmt} {o : Out} (J : Nat → Ctx → Prop) (h1 : I Γ sc k iter tgt σ ds σ1) (h0 : J 0 σ1)
    (turn : ∀ i d σ2, ds[i]? = some d → J i σ2 → ∃ σ3, A Γ sc k tgt σ2 d σ3 ∧ X Γ sc k body σ3 (.next (J (i + 1)))) (h : ∀ σ2, J ds.length σ2 → X Γ sc k rest σ2 o)
    (hs : ∀ env x, foldedSetIterable iter env x = pure x := by intro _ _; with_unfolding_all rfl) : X Γ sc k (.For tgt iter body [] pos :: rest) σ o :=
  ⟨ExS.consN (Ex1.for J h1.ok h0 (fun i d σ2 a b => let ⟨σ3, h2, h3⟩ := turn i d σ2 a b; ⟨σ3, h2.ok, h3.ok⟩) hs) fun σ' hj => (h σ' hj).ok⟩
theorem X.while {test : Expr} {body orelse : List Stmt} {pos : Pos} {rest : List Stmt} {J : Ctx → Prop} {o : Out} (h1 : W Γ sc k test body orelse σ (.next J)) (h : ∀ σ2, J σ2 → X Γ sc k rest σ2 o) : X Γ sc k (.While test body orelse pos :: rest) σ o :=
  ⟨ExS.consN (Ex1.while h1.ok) fun σ' hj => (h σ' hj).ok⟩
theorem X.whileR {test : Expr} {body orelse : List Stmt} {pos : Pos} {rest : List Stmt} {d : D} (h1 : W Γ sc k test body orelse σ (.ret d)) : X Γ sc k (.While test body orelse pos :: rest) σ (.ret d) := ⟨ExS.ret (Ex1.while h1.ok)⟩
theorem W.stop {test : Expr} {body : List Stmt} {J : Ctx → Prop} (h1 : T Γ sc k test σ false σ1) (h2 : J σ1) : W Γ sc k test body [] σ (.next J) := ⟨ExW.stop h1.ok (X.done h2).ok⟩
theorem W.turn {test : Expr} {body orelse : List Stmt} {o : Out} {J : Ctx → Prop} (h1 : T Γ sc k test σ true σ1) (h2 : X Γ sc k body σ1 (.next J)) (h3 : ∀ σ2, J σ2 → W Γ sc k test body orelse σ2 o) : W Γ sc k test body orelse σ o := ⟨ExW.turn h1.ok h2.ok fun σ2 hj => (h3 σ2 hj).ok⟩
theorem W.ret {test : Expr} {body orelse : List Stmt} {d : D} (h1 : T Γ sc k test σ true σ1) (h2 : X Γ sc k body σ1 (.ret d)) : W Γ sc k test body orelse σ (.ret d) := ⟨ExW.ret h1.ok h2.ok⟩
theorem X.has {ss : List Stmt} {o : Out} {σ' : Ctx} (h : X Γ sc k ss σ' o) (hs : σ.has σ') : X Γ sc k ss σ o := ⟨fun A env P g s Q R S q => h.ok A env P g s Q R (S.weaken hs) q⟩
theorem W.has {test : Expr} {body orelse : List Stmt} {o : Out} {σ' : Ctx} (h : W Γ sc k test body orelse σ' o) (hs : σ.has σ') : W Γ sc k test body orelse σ o := ⟨fun A env P g s Q R S q => h.ok A env P g s Q R (S.weaken hs) q⟩
end Mine
end

section
open PySem PySem.W PyProof.Rows PySem.Calls
namespace Mine

noncomputable def Sm (n : Nat) (a : Int) : Prop := a.natAbs < 2 ^ n
theorem Sm.mono {n m : Nat} {a : Int} (h : Sm n a) (k : n ≤ m) : Sm m a := Nat.lt_of_lt_of_le h (Nat.pow_le_pow_right (by decide) k)
theorem Sm.mul {n m : Nat} {a b : Int} (h : Sm n a) (k : Sm m b) : Sm (n + m) (a * b) := by
  unfold Sm at *
  rw [Int.natAbs_mul, Nat.pow_add]
  exact Nat.mul_lt_mul'' h k
theorem Sm.add {n : Nat} {a b : Int} (h : Sm n a) (k : Sm n b) : Sm (n + 1) (a + b) := by
  unfold Sm at *
  have := Int.natAbs_add_le a b
  rw [Nat.pow_succ]; omega
theorem Sm.neg {n : Nat} {a : Int} (h : Sm n a) : Sm n (-a) := by unfold Sm at *; rwa [Int.natAbs_neg]
theorem Sm.sub {n : Nat} {a b : Int} (h : Sm n a) (k : Sm n b) : Sm (n + 1) (a - b) := by rw [Int.sub_eq_add_neg]; exact h.add k.neg
theorem Sm.zero {n : Nat} : Sm n 0 := by unfold Sm; simp; exact Nat.two_pow_pos n
theorem Sm.one {n : Nat} : Sm (n + 1) 1 := by unfold Sm; exact Nat.one_lt_two_pow (by omega)
theorem Sm.log {n : Nat} {a : Int} (h : Sm n a) (k : n ≤ 9000) : a.natAbs.log2 < 9000 := by
  by_cases h0 : a.natAbs = 0
  · rw [h0]; decide +kernel
  · have := (Nat.log2_lt h0).mpr h; omega
theorem Sm.bits {n : Nat} {a : Int} (h : Sm n a) : Builtin.Int.intBits a ≤ n := by
  unfold Builtin.Int.intBits
  split
  · exact Nat.zero_le _
  · rename_i h0
    have h1 : a.natAbs ≠ 0 := fun e => h0 (by rw [Int.natAbs_eq_zero.mp e]; rfl)
    exact (Nat.log2_lt h1).mpr h
theorem Sm.ok {n m : Nat} {a b : Int} (h : Sm n a) (k : Sm m b) (l : n + m ≤ 2 ^ 20) : IntMulOk a b := by
  have h1 := h.bits
  have h2 := k.bits
  unfold IntMulOk Builtin.Int.intTooBig
  rw [Bool.and_eq_true]
  rintro ⟨_, h3⟩
  have h3 := of_decide_eq_true h3
  have : bitsLine = 2 ^ 27 := rfl
  omega
theorem Sm.of_le {n : Nat} {a b : Int} (h : Sm n b) (k : a.natAbs ≤ b.natAbs) : Sm n a := Nat.lt_of_le_of_lt k h
theorem Sm.fdiv {n : Nat} {a b : Int} (h : Sm n a) : Sm (n + 1) (a.fdiv b) :=
  Nat.lt_of_le_of_lt (Int.natAbs_fdiv_le_natAbs a b) (Nat.lt_of_lt_of_le h (Nat.pow_le_pow_right (by decide) (Nat.le_succ n)))
noncomputable def SmL (n : Nat) (l : List Int) : Prop := ∀ c ∈ l, Sm n c
theorem SmL.mono {n m : Nat} {l : List Int} (h : SmL n l) (k : n ≤ m) : SmL m l := fun c hc => (h c hc).mono k
theorem SmL.getD {n : Nat} {l : List Int} (h : SmL n l) (i : Nat) : Sm n (l.getD i 0) := by
  rw [List.getD_eq_getElem?_getD]
  cases e : l[i]? with
  | none => exact Sm.zero
  | some c => exact h c (List.mem_of_getElem? e)

noncomputable def gcdI (a b : Int) : Int := (Int.gcd a b : Nat)
noncomputable def gcdAll (l : List Int) : Int := l.foldl gcdI 0
theorem gcdI_nonneg (a b : Int) : 0 ≤ gcdI a b := by unfold gcdI; omega
theorem gcdI_sm {n : Nat} {a b : Int} (h : Sm n a) (k : Sm n b) : Sm n (gcdI a b) := by
  unfold Sm gcdI at *
  rw [Int.natAbs_natCast]
  by_cases h0 : a = 0
  · subst h0; rw [Int.gcd_zero_left]; exact k
  · exact Nat.lt_of_le_of_lt (Nat.le_of_dvd (by omega) (Nat.gcd_dvd_left _ _)) h
theorem gcdI_ne {a b : Int} (h : b ≠ 0) : gcdI a b ≠ 0 := by
  unfold gcdI
  have : 0 < Int.gcd a b := Int.gcd_pos_of_ne_zero_right a h
  omega
theorem gcdAll_sm {n : Nat} {l : List Int} (h : SmL n l) : Sm n (gcdAll l) := by
  unfold gcdAll
  have : ∀ (l : List Int) (g : Int), SmL n l → Sm n g → Sm n (l.foldl gcdI g) := by
    intro l
    induction l with
    | nil => intro g _ hg; exact hg
    | cons c l ih => intro g hl hg; exact ih _ (fun x hx => hl x (.tail _ hx)) (gcdI_sm hg (hl c (.head _)))
  exact this l 0 h Sm.zero
noncomputable abbrev dq (q : Int × Int) : D := .tup [.int q.1, .int q.2]
noncomputable def ratS (t b : Int) : Int × Int := let g := if b > 0 then gcdI t b else 0 - gcdI t b; (t.fdiv g, b.fdiv g)
noncomputable def raddS (a b : Int × Int) : Int × Int := ratS (a.1 * b.2 + b.1 * a.2) (a.2 * b.2)
noncomputable def rmulS (a b : Int × Int) : Int × Int := ratS (a.1 * b.1) (a.2 * b.2)
noncomputable def rcmp (a b : Int × Int) : Int := b2i (decide (0 < a.1 * b.2 - b.1 * a.2)) - b2i (decide (a.1 * b.2 - b.1 * a.2 < 0))
noncomputable def midS (a b : Int × Int) : Int × Int := rmulS (raddS a b) (1, 2)

noncomputable def trimSz (l : List Int) : Nat → Nat
  | 0 => 0
  | n + 1 => if l.getD n 0 = 0 then trimSz l n else n + 1
noncomputable def trim (l : List Int) : List Int := l.take (trimSz l l.length)
noncomputable def lead (l : List Int) : Int := l.getD (l.length - 1) 0
noncomputable def zadd (a b : List Int) : List Int := trim ((List.range (max a.length b.length)).map fun i => a.getD i 0 + b.getD i 0)
noncomputable def zneg (p : List Int) : List Int := p.map (- ·)
noncomputable def zsub (a b : List Int) : List Int := zadd a (zneg b)
noncomputable def zscale (p : List Int) (k : Int) : List Int := if k = 0 then [] else p.map (· * k)
noncomputable def zraise (p : List Int) (m : Nat) : List Int := if p = [] then [] else List.replicate m 0 ++ p
noncomputable def zdivided (p : List Int) (k : Int) : List Int := p.map (·.fdiv k)
noncomputable def zprim (p : List Int) : List Int := if p = [] then [] else zdivided p (if lead p > 0 then gcdAll p else -gcdAll p)
noncomputable def dgo : Nat → List Int → List Int
  | _, [] => []
  | i, c :: l => c * (i : Int) :: dgo (i + 1) l
noncomputable def zder (p : List Int) : List Int := (dgo 0 p).drop 1
noncomputable def psGo (b : List Int) (first : Int) : Nat → List Int → List Int → Int → List Int × List Int × Int
  | 0, rest, found, left => (found, rest, left)
  | n + 1, rest, found, left =>
    if rest.length ≥ b.length then
      psGo b first n (zsub (zscale rest first) (zraise (zscale b (lead rest)) (rest.length - b.length))) (zsub (zscale found first) (zraise [-lead rest] (rest.length - b.length))) (left - 1)
    else (found, rest, left)
noncomputable def psMany (a b : List Int) : Nat := a.length + 1 - b.length
noncomputable def psRun (a b : List Int) : List Int × List Int × Int := psGo b (lead b) (psMany a b) a [] (psMany a b)
noncomputable def psRest (a b : List Int) : List Int := zscale (psRun a b).2.1 (lead b ^ (psRun a b).2.2.toNat)
noncomputable def psQuo (a b : List Int) : List Int := zscale (psRun a b).1 (lead b ^ (psRun a b).2.2.toNat)
noncomputable def exGo (b : List Int) : Nat → List Int → List Int → Option (List Int × List Int)
  | 0, rest, found => some (rest, found)
  | n + 1, rest, found =>
    if rest.length ≥ b.length then
      if (lead rest).fmod (lead b) = 0 then
        exGo b n (zsub rest (zraise (zscale b ((lead rest).fdiv (lead b))) (rest.length - b.length))) (found.set (rest.length - b.length) ((lead rest).fdiv (lead b)))
      else none
    else some (rest, found)
noncomputable def zexact (a b : List Int) : Option (List Int) :=
  match exGo b (psMany a b) a (List.replicate (psMany a b) 0) with
  | some (rest, found) => if rest = [] then some (trim found) else none
  | none => none
noncomputable def nextHeight (front : Int) (step : Nat) (height : Int) : Int := if step = 0 then height else (front ^ step).fdiv (height ^ (step - 1))
noncomputable def subGo : Nat → List Int → List Int → List (List Int) → Int → Int → List (List Int)
  | 0, _, _, row, _, _ => row
  | n + 1, a, b, row, front, height =>
    if b.length > 1 then
      if psRest a b = [] then row
      else subGo n b (zdivided (psRest a b) (front * height ^ (a.length - b.length))) (row ++ [zdivided (psRest a b) (front * height ^ (a.length - b.length))]) (lead b) (nextHeight (lead b) (a.length - b.length) height)
    else row
noncomputable def subres (a b : List Int) : List (List Int) := subGo b.length a b [a, b] 1 1
noncomputable def zgcd (a b : List Int) : List Int :=
  let number := gcdI (gcdAll a) (gcdAll b)
  let last := (subres (zprim a) (zprim b)).getLast?.getD []
  if last.length > 1 then zscale (zprim last) number else [number]
noncomputable def valGo (t b : Int) : List Int → Int × Int → Int × Int
  | [], fs => fs
  | c :: l, (f, s) => valGo t b l (f * t + c * s, s * b)
noncomputable def valH (p : List Int) (x : Int × Int) : Int := (valGo x.1 x.2 p.reverse (0, 1)).1
noncomputable def sgn (n : Int) : Int := b2i (decide (0 < n)) - b2i (decide (n < 0))
noncomputable def valSign (p : List Int) (x : Int × Int) : Int := sgn (valH p x)
noncomputable def endSign (p : List Int) (minus : Bool) : Int := if p = [] then 0 else if minus && decide (((p.length : Int) - 1).fmod 2 = 1) then - sgn (lead p) else sgn (lead p)
noncomputable def less1 (p : List Int) : List Int := if gcdAll p > 1 then p.map (·.fdiv (gcdAll p)) else p
noncomputable def nextRow (a b : List Int) : List Int := if ((psMany a b : Nat) : Int).fmod 2 = 1 ∧ lead b < 0 then less1 (psRest a b) else less1 (zneg (psRest a b))
noncomputable def stTail : Nat → List Int → List Int → List (List Int)
  | 0, _, _ => []
  | n + 1, a, b => if b = [] then [] else b :: stTail n b (nextRow a b)
noncomputable def sturm (f : List Int) : List (List Int) := f :: stTail f.length f (zder f)
noncomputable def chg : List Int → Nat
  | a :: b :: l => (if b ≠ a then 1 else 0) + chg (b :: l)
  | _ => 0
noncomputable def changes (s : List Int → Int) (row : List (List Int)) : Int := (chg ((row.map s).filter (· ≠ 0)) : Nat)
noncomputable def rootBound (f : List Int) : Int := 2 + ((f.map fun c => (c.natAbs : Int)).foldl max 0).fdiv (lead f).natAbs
end Mine
end

section
open PySem PySem.W PyProof.Rows PySem.Calls
set_option maxRecDepth 100000
namespace Mine
variable {Γ : Gl} {sc : Scope} {k : Nat} {σ σ1 σ2 σ3 : Ctx}

theorem has_refl {σ : Ctx} : σ.has σ := fun _ _ h => h
theorem has_app {l e : Ctx} : Ctx.has (l ++ e) l := fun y av h => by rw [List.lookup_append, h]; rfl
theorem has_take {σ c : Ctx} (n : Nat) (h : σ.take n = c) : σ.has c := by
  have := has_app (l := σ.take n) (e := σ.drop n)
  rw [List.take_append_drop, h] at this
  exact this
theorem has_trans {a b c : Ctx} (h : a.has b) (h' : b.has c) : a.has c := fun y av q => h y av (h' y av q)
theorem A.has {t : Expr} {d : D} {σ' : Ctx} (h : A Γ sc k t σ d σ1) (hs : σ'.has σ) : A Γ sc k t σ' d σ1 :=
  ⟨fun v A env P g s Q R S a q => h.ok v A env P g s Q R (S.weaken hs) a q⟩
theorem E.has {e : Expr} {d : D} {σ' : Ctx} (h : E Γ sc k e σ d σ1) (hs : σ'.has σ) : E Γ sc k e σ' d σ1 :=
  ⟨fun A env P g s Q R S a q => h.ok A env P g s Q R (S.weaken hs) a q⟩
theorem X.forH {tgt iter : Expr} {body : List Stmt} {pos : Pos} {ds : List D} {rest : List Stmt} {o : Out} (ctx : Nat → Ctx) (h1 : I Γ sc k iter tgt σ ds σ1) (h0 : σ1.has (ctx 0))
    (turn : ∀ i d, ds[i]? = some d → ∃ σ3, A Γ sc k tgt (ctx i) d σ3 ∧ X Γ sc k body σ3 (.next fun σ => σ.has (ctx (i + 1)))) (h : X Γ sc k rest (ctx ds.length) o)
    (hs : ∀ env x, foldedSetIterable iter env x = pure x := by intro _ _; with_unfolding_all rfl) : X Γ sc k (.For tgt iter body [] pos :: rest) σ o :=
  X.for (fun i σ => σ.has (ctx i)) h1 h0 (fun i d σ2 hd hσ => let ⟨σ3, a, b⟩ := turn i d hd; ⟨σ3, a.has hσ, b⟩) (fun σ2 hσ => h.has hσ) hs
theorem X.forL {α : Type} {tgt iter : Expr} {body : List Stmt} {pos : Pos} {rest : List Stmt} {o : Out} (l : List α) (inj : α → D) (ctx : List α → Ctx) (h1 : I Γ sc k iter tgt σ (l.map inj) σ1) (h0 : σ1.has (ctx l))
    (turn : ∀ x t, (∃ p, l = p ++ x :: t) → ∃ σ3, A Γ sc k tgt (ctx (x :: t)) (inj x) σ3 ∧ X Γ sc k body σ3 (.next fun σ => σ.has (ctx t))) (h : X Γ sc k rest (ctx []) o)
    (hs : ∀ env x, foldedSetIterable iter env x = pure x := by intro _ _; with_unfolding_all rfl) : X Γ sc k (.For tgt iter body [] pos :: rest) σ o := by
  refine X.forH (fun i => ctx (l.drop i)) h1 h0 (fun i d hd => ?_) (by rw [List.length_map, List.drop_length]; exact h) hs
  rw [List.getElem?_map] at hd
  obtain ⟨x, hx, rfl⟩ := Option.map_eq_some_iff.mp hd
  have e : l.drop i = x :: l.drop (i + 1) := by
    obtain ⟨h1, h2⟩ := List.getElem?_eq_some_iff.mp hx
    rw [List.drop_eq_getElem_cons h1, h2]
  obtain ⟨σ3, a, b⟩ := turn x (l.drop (i + 1)) ⟨l.take i, by rw [← e, List.take_append_drop]⟩
  exact ⟨σ3, by rw [e]; exact a, b⟩
theorem outsTo_map {out : Nat → Option D} {α : Type} : ∀ (l : List α) (f : α → Option D), (∀ i x, l[i]? = some x → out i = f x) → outsTo out l.length = l.filterMap f := by
  intro l
  suffices key : ∀ (r : List α) (f : α → Option D), (∀ i x, r.reverse[i]? = some x → out i = f x) → outsTo out r.reverse.length = r.reverse.filterMap f by
    intro f h; have := key l.reverse f; rw [List.reverse_reverse] at this; exact this h
  intro r
  induction r with
  | nil => intro f _; rfl
  | cons x r ih =>
    intro f h
    rw [List.reverse_cons] at h ⊢
    generalize r.reverse = l at *
    rw [List.length_append, List.length_singleton]
    show outsTo out l.length ++ (out l.length).toList = _
    rw [ih f (fun i y hy => h i y (by rw [List.getElem?_append_left (List.getElem?_eq_some_iff.mp hy).1]; exact hy)), h l.length x (by simp), List.filterMap_append]
    cases hf : f x <;> simp [hf]
theorem filterMap_some {α β : Type} (l : List α) (f : α → β) : l.filterMap (fun x => some (f x)) = l.map f := by simp
theorem filterMap_if {α β : Type} (l : List α) (b : α → Bool) (f : α → β) : l.filterMap (fun x => if b x = true then some (f x) else none) = (l.filter b).map f := by
  induction l with
  | nil => rfl
  | cons x l ih =>
    rw [List.filterMap_cons, List.filter_cons]
    cases b x <;> simp [ih]
theorem map_get {α : Type} {l : List α} {inj : α → D} {i : Nat} {d : D} (h : (l.map inj)[i]? = some d) : ∃ x, l[i]? = some x ∧ d = inj x := by
  rw [List.getElem?_map] at h
  obtain ⟨x, hx, rfl⟩ := Option.map_eq_some_iff.mp h
  exact ⟨x, hx, rfl⟩
theorem E.compMap {α : Type} {scope : Scope} {σc : Ctx} {elt tgt iter : Expr} {pos : Pos} (l : List α) (inj out : α → D) (hI : I Γ sc k iter tgt σ (l.map inj) σ1) (hok : compOk scope sc = true) (hi : Inner scope σ1 σc) (hds : l.length ≤ 1000)
    (turn : ∀ x ∈ l, ∃ σ3, A Γ (relabS scope sc) k tgt σc (inj x) σ3 ∧ El Γ (relabS scope sc) k [] elt σ3 σc (some (out x)))
    (hs : ∀ env x, foldedSetIterable iter env x = pure x := by intro _ _; with_unfolding_all rfl) : E Γ sc k (.ListComp elt [⟨tgt, iter, [], 0⟩] scope pos) σ (.list (l.map out)) σ1 := by
  refine E.comp hI hok hi (by simpa using hds) (fun i => (l[i]?).map out) (fun i d h => ?_) ?_ hs
  · obtain ⟨x, hx, rfl⟩ := map_get h
    simp only [hx, Option.map_some]
    exact turn x (List.mem_of_getElem? hx)
  · rw [List.length_map, outsTo_map l (fun x => some (out x)) (fun i x hx => by simp only [hx, Option.map_some]), filterMap_some]
theorem E.compFilter {α : Type} {scope : Scope} {σc : Ctx} {elt tgt iter t : Expr} {pos : Pos} (l : List α) (inj out : α → D) (b : α → Bool) (hI : I Γ sc k iter tgt σ (l.map inj) σ1) (hok : compOk scope sc = true) (hi : Inner scope σ1 σc) (hds : l.length ≤ 1000)
    (turn : ∀ x ∈ l, ∃ σ3, A Γ (relabS scope sc) k tgt σc (inj x) σ3 ∧ El Γ (relabS scope sc) k [t] elt σ3 σc (if b x = true then some (out x) else Option.none))
    (hs : ∀ env x, foldedSetIterable iter env x = pure x := by intro _ _; with_unfolding_all rfl) : E Γ sc k (.ListComp elt [⟨tgt, iter, [t], 0⟩] scope pos) σ (.list ((l.filter b).map out)) σ1 := by
  refine E.comp hI hok hi (by simpa using hds) (fun i => (l[i]?).bind fun x => if b x = true then some (out x) else Option.none) (fun i d h => ?_) ?_ hs
  · obtain ⟨x, hx, rfl⟩ := map_get h
    simp only [hx, Option.bind_some]
    exact turn x (List.mem_of_getElem? hx)
  · rw [List.length_map, outsTo_map l (fun x => if b x = true then some (out x) else Option.none) (fun i x hx => by simp only [hx, Option.bind_some]), filterMap_if]
theorem X.compMap {α : Type} {scope : Scope} {σc : Ctx} {elt tgt iter : Expr} {pos p' spos : Pos} {rest : List Stmt} {o : Out} {y : Str} (l : List α) (inj out : α → D) (hI : I Γ sc k iter tgt σ (l.map inj) σ1) (hok : compOk scope sc = true) (hi : Inner scope σ1 σc) (hds : l.length ≤ 1000)
    (turn : ∀ x ∈ l, ∃ σ3, A Γ (relabS scope sc) k tgt σc (inj x) σ3 ∧ El Γ (relabS scope sc) k [] elt σ3 σc (some (out x))) (hy : Stored sc y) (h : X Γ sc k rest (upd σ1 y (.d (.list (l.map out)))) o)
    (hsw : ∀ env, env.scope = sc → swapsWith (.ListComp elt [⟨tgt, iter, [], 0⟩] scope pos) (some (.Name y p')) spos.line env = pure true := by intro env h; rcases env with ⟨⟩; cases h; with_unfolding_all rfl)
    (hs : ∀ env x, foldedSetIterable iter env x = pure x := by intro _ _; with_unfolding_all rfl) : X Γ sc k (.Assign [.Name y p'] (.ListComp elt [⟨tgt, iter, [], 0⟩] scope pos) spos :: rest) σ o := by
  refine X.assignComp hI hok hi (by simpa using hds) (fun i => (l[i]?).map out) (fun i d h => ?_) ?_ hy h hsw hs
  · obtain ⟨x, hx, rfl⟩ := map_get h
    simp only [hx, Option.map_some]
    exact turn x (List.mem_of_getElem? hx)
  · rw [List.length_map, outsTo_map l (fun x => some (out x)) (fun i x hx => by simp only [hx, Option.map_some]), filterMap_some]
theorem X.compFilter {α : Type} {scope : Scope} {σc : Ctx} {elt tgt iter t : Expr} {pos p' spos : Pos} {rest : List Stmt} {o : Out} {y : Str} (l : List α) (inj out : α → D) (b : α → Bool) (hI : I Γ sc k iter tgt σ (l.map inj) σ1) (hok : compOk scope sc = true) (hi : Inner scope σ1 σc) (hds : l.length ≤ 1000)
    (turn : ∀ x ∈ l, ∃ σ3, A Γ (relabS scope sc) k tgt σc (inj x) σ3 ∧ El Γ (relabS scope sc) k [t] elt σ3 σc (if b x = true then some (out x) else none)) (hy : Stored sc y) (h : X Γ sc k rest (upd σ1 y (.d (.list ((l.filter b).map out)))) o)
    (hsw : ∀ env, env.scope = sc → swapsWith (.ListComp elt [⟨tgt, iter, [t], 0⟩] scope pos) (some (.Name y p')) spos.line env = pure true := by intro env h; rcases env with ⟨⟩; cases h; with_unfolding_all rfl)
    (hs : ∀ env x, foldedSetIterable iter env x = pure x := by intro _ _; with_unfolding_all rfl) : X Γ sc k (.Assign [.Name y p'] (.ListComp elt [⟨tgt, iter, [t], 0⟩] scope pos) spos :: rest) σ o := by
  refine X.assignComp hI hok hi (by simpa using hds) (fun i => (l[i]?).bind fun x => if b x = true then some (out x) else none) (fun i d h => ?_) ?_ hy h hsw hs
  · obtain ⟨x, hx, rfl⟩ := map_get h
    simp only [hx, Option.bind_some]
    exact turn x (List.mem_of_getElem? hx)
  · rw [List.length_map, outsTo_map l (fun x => if b x = true then some (out x) else none) (fun i x hx => by simp only [hx, Option.bind_some]), filterMap_if]
theorem Inner.of {scope : Scope} {σ σc : Ctx} (h : ∀ p ∈ σc, σ.lookup p.1 = some p.2 ∧ scope.names.lookup p.1 = some .free ∧ ∃ d, p.2 = .d d) (h' : ∀ x ∈ scope.names, x.2 = .free → σc.lookup x.1 = σ.lookup x.1) : Inner scope σ σc where
  out := fun y av hy => h _ (mem_of_lookup' hy)
  inn := fun y av hy hf => (h' _ (mem_of_lookup' hf) rfl).trans hy
theorem I.conv {iter tgt : Expr} {ds ds' : List D} (h : I Γ sc k iter tgt σ ds σ1) (e : ds = ds') : I Γ sc k iter tgt σ ds' σ1 := e ▸ h
theorem G.atI {l : List Int} {i : Int} (h0 : 0 ≤ i) (h : i < l.length) (hl : l.length ≤ 1000) : G Γ k (il l) i (.int (l.getD i.toNat 0)) := by
  have hn : i.toNat < l.length := by omega
  exact G.list (j := i.toNat) (by rw [List.length_map]; exact idx_nn h0 h) (by simp [hn]) (by simpa using hl)
theorem G.last {l : List Int} (h : l ≠ []) (hl : l.length ≤ 1000) : G Γ k (il l) (-1) (.int (lead l)) := by
  have hn : 0 < l.length := List.length_pos_iff.mpr h
  exact G.list (j := l.length - 1) (by rw [List.length_map]; exact idx_neg (m := 1) (by omega) (by omega)) (by unfold lead; simp [show l.length - 1 < l.length by omega]) (by simpa using hl)
noncomputable def whS (i : Nat) : Stmt := ((fB i).find? fun s => match s with | .While .. => true | _ => false).getD (.Pass default)
noncomputable def whT (i : Nat) : Expr := match whS i with | .While t _ _ _ => t | _ => .Constant .none 0 default
noncomputable def whB (i : Nat) : List Stmt := match whS i with | .While _ b _ _ => b | _ => []
theorem abs_if (i : Int) : (if i < 0 then -i else i) = (i.natAbs : Int) := by split <;> omega
end Mine
end

section
open PySem PySem.W PyProof.Rows PySem.Calls
set_option maxRecDepth 100000
namespace Mine
variable {Γ : Gl} {sc : Scope} {k : Nat} {σ σ1 σ2 σ3 : Ctx}
structure V (Γ : Gl) (sc : Scope) (k : Nat) (test : Expr) (body rest : List Stmt) (σ : Ctx) (o : Out) : Prop where
  ok : ∀ (A : Around) (env : Env) (P : List Addr) (g : GM) (s : Shared) (Q : Flow → Shared → Prop), Room A k → St Γ sc σ P g env s.heap → PostS Γ sc env P g s o Q →
    codeAny (model Γ.prog Γ.w) A (.whileLoop test body [] env) (fun r s' => match r with | .ok .next => wpAny (model Γ.prog Γ.w) A (execs rest env) Q noE s' | .ok f => Q f s' | .error _ => False) s
theorem V.stop {test : Expr} {body rest : List Stmt} {o : Out} (h1 : T Γ sc k test σ false σ1) (h2 : X Γ sc k rest σ1 o) : V Γ sc k test body rest σ o := by
  refine ⟨fun A env P g s Q R S q => ExW.turn0 (h1.ok A env P g s _ R S trivial fun b P1 g1 h1' t1 st1 S1 e => ?_)⟩
  subst e
  exact wpAny_execs_nil (h2.ok A env P1 g1 _ _ R S1 (q.after st1))
theorem V.turn {test : Expr} {body rest : List Stmt} {o : Out} {J : Ctx → Prop} (h1 : T Γ sc k test σ true σ1) (h2 : X Γ sc k body σ1 (.next J)) (h3 : ∀ σ2, J σ2 → V Γ sc k test body rest σ2 o) : V Γ sc k test body rest σ o := by
  refine ⟨fun A env P g s Q R S q => ExW.turn0 (h1.ok A env P g s _ R S trivial fun b P1 g1 h1' t1 st1 S1 e => ?_)⟩
  subst e
  refine h2.ok A env P1 g1 _ _ R S1 fun σ2 P2 g2 h2' t2 n st2 S2 => ?_
  exact (h3 σ2 n).ok A env P2 g2 _ _ R S2 (q.after (st1.trans st2))
theorem V.ret {test : Expr} {body rest : List Stmt} {d : D} (h1 : T Γ sc k test σ true σ1) (h2 : X Γ sc k body σ1 (.ret d)) : V Γ sc k test body rest σ (.ret d) := by
  refine ⟨fun A env P g s Q R S q => ExW.turn0 (h1.ok A env P g s _ R S trivial fun b P1 g1 h1' t1 st1 S1 e => ?_)⟩
  subst e
  exact h2.ok A env P1 g1 _ _ R S1 fun v P2 g2 h2' t2 st2 hs a => q v P2 g2 h2' t2 (st1.trans st2) hs a
theorem V.has {test : Expr} {body rest : List Stmt} {o : Out} {σ' : Ctx} (h : V Γ sc k test body rest σ' o) (hs : σ.has σ') : V Γ sc k test body rest σ o := ⟨fun A env P g s Q R S q => h.ok A env P g s Q R (S.weaken hs) q⟩
theorem X.whileV {test : Expr} {body rest : List Stmt} {pos : Pos} {o : Out} (h : V Γ sc k test body rest σ o) : X Γ sc k (.While test body [] pos :: rest) σ o := by
  refine ⟨fun A env P g s Q R S q => wpAny_execs_cons (wpAny_While (codeAny_mono (h.ok A env P g s Q R S q) fun r s' hr => ?_))⟩
  cases r with
  | error e => exact hr.elim
  | ok f => cases f <;> exact hr
theorem El.conv {ifs : List Expr} {elt : Expr} {σc : Ctx} {o o' : Option D} (h : El Γ sc k ifs elt σ σc o) (e : o = o') : El Γ sc k ifs elt σ σc o' := e ▸ h
theorem X.assignC {e : Expr} {x : Str} {p' pos : Pos} {rest : List Stmt} {d : D} {o : Out} (h1 : E Γ sc k e σ d σ1) (hx : Stored sc x) (h : X Γ sc k rest (upd σ1 x (.d d)) o)
    (hs : ∀ env, env.scope = sc → swapsWith e (some (.Name x p')) pos.line env = pure false := by intro env h; rcases env with ⟨⟩; cases h; with_unfolding_all rfl) :
    X Γ sc k (.Assign [.Name x p'] e pos :: rest) σ o := by
  refine ⟨ExS.cons (σ1 := upd σ1 x (.d d)) (fun A env P g s Q R S q => ?_) h.ok⟩
  refine wpAny_Assign_Name (h1.ok A env P g s _ R S trivial fun v P1 g1 h1' t1 st1 S1 a1 => ?_) (hs env S.scope)
  exact store_d S1 hx a1 fun h' tk st2 S2 => q _ _ _ _ _ rfl (st1.trans st2) S2
end Mine
end

section
open PySem PySem.W PyProof.Rows PySem.Calls
namespace Mine

theorem SmL.of_getD {n : Nat} {l : List Int} (h : ∀ i, Sm n (l.getD i 0)) : SmL n l := fun c hc => by
  obtain ⟨i, hi, rfl⟩ := List.getElem_of_mem hc
  have := h i
  rwa [List.getD_eq_getElem?_getD, List.getElem?_eq_getElem hi] at this
theorem getD_zero_of_le {l : List Int} {i : Nat} (h : l.length ≤ i) : l.getD i 0 = 0 := by simp [h]
theorem trimSz_zero (l : List Int) : ∀ n i, trimSz l n ≤ i → i < n → l.getD i 0 = 0
  | 0, i, _, h => by omega
  | n + 1, i, h1, h2 => by
    unfold trimSz at h1
    split at h1
    · rename_i h
      by_cases hi : i = n
      · rw [hi]; exact h
      · exact trimSz_zero l n i h1 (by omega)
    · omega
theorem trim_getD (l : List Int) (i : Nat) : (trim l).getD i 0 = l.getD i 0 := by
  unfold trim
  rw [List.getD_eq_getElem?_getD, List.getElem?_take]
  split
  · rw [List.getD_eq_getElem?_getD]
  · rename_i h
    by_cases hi : i < l.length
    · rw [trimSz_zero l l.length i (by omega) hi]; rfl
    · rw [getD_zero_of_le (by omega)]; rfl
theorem zadd_getD (a b : List Int) (i : Nat) : (zadd a b).getD i 0 = a.getD i 0 + b.getD i 0 := by
  unfold zadd
  rw [trim_getD, List.getD_eq_getElem?_getD, List.getElem?_map]
  by_cases h : i < max a.length b.length
  · rw [List.getElem?_range h]; rfl
  · rw [List.getElem?_eq_none (by simpa using by omega), getD_zero_of_le (l := a) (by omega), getD_zero_of_le (l := b) (by omega)]; rfl
theorem map_getD (f : Int → Int) (h0 : f 0 = 0) (l : List Int) (i : Nat) : (l.map f).getD i 0 = f (l.getD i 0) := by
  rw [List.getD_eq_getElem?_getD, List.getD_eq_getElem?_getD, List.getElem?_map]
  cases l[i]? <;> simp [h0]
theorem zneg_getD (a : List Int) (i : Nat) : (zneg a).getD i 0 = -a.getD i 0 := map_getD (- ·) (by rfl) a i
theorem zscale_getD (p : List Int) (c : Int) (i : Nat) : (zscale p c).getD i 0 = p.getD i 0 * c := by
  unfold zscale
  split
  · rename_i h; subst h; simp
  · exact map_getD (· * c) (by simp) p i
theorem zraise_getD (p : List Int) (m i : Nat) : (zraise p m).getD i 0 = if i < m then 0 else p.getD (i - m) 0 := by
  unfold zraise
  split
  · rename_i h; subst h; simp
  · rw [List.getD_eq_getElem?_getD, List.getElem?_append]
    simp only [List.length_replicate]
    split
    · rename_i h; rw [List.getElem?_replicate]; simp [h]
    · rw [List.getD_eq_getElem?_getD]
theorem zsub_getD (a b : List Int) (i : Nat) : (zsub a b).getD i 0 = a.getD i 0 - b.getD i 0 := by
  unfold zsub; rw [zadd_getD, zneg_getD]; omega
theorem trim_len_lt {l : List Int} {n : Nat} (h : l.length ≤ n + 1) (h0 : l.getD n 0 = 0) : (trim l).length ≤ n := by
  have key : ∀ m, m ≤ n + 1 → trimSz l m ≤ n := by
    intro m hm
    by_cases e : m = n + 1
    · subst e; unfold trimSz; rw [if_pos h0]
      have : ∀ m, trimSz l m ≤ m := by
        intro m; induction m with
        | zero => exact Nat.le_refl _
        | succ m ih => unfold trimSz; split <;> omega
      exact this n
    · have : ∀ m, trimSz l m ≤ m := by
        intro m; induction m with
        | zero => exact Nat.le_refl _
        | succ m ih => unfold trimSz; split <;> omega
      have := this m; omega
  have := key l.length h
  unfold trim; rw [List.length_take]; omega
theorem zadd_len_lt {a b : List Int} {n : Nat} (ha : a.length ≤ n + 1) (hb : b.length ≤ n + 1) (h0 : a.getD n 0 + b.getD n 0 = 0) : (zadd a b).length ≤ n := by
  unfold zadd
  by_cases hn : max a.length b.length ≤ n
  · have : ∀ l : List Int, (trim l).length ≤ l.length := fun l => by unfold trim; rw [List.length_take]; omega
    exact Nat.le_trans (this _) (by simpa using by omega)
  · refine trim_len_lt (by simp; omega) ?_
    rw [List.getD_eq_getElem?_getD, List.getElem?_map, List.getElem?_range (by omega)]
    exact h0
theorem lead_getD {l : List Int} {n : Nat} (h : l.length = n + 1) : lead l = l.getD n 0 := by unfold lead; rw [h]; rfl
theorem turn_len {rest b : List Int} {c d : Int} (hb : b ≠ []) (h : b.length ≤ rest.length) (e : lead rest * c = lead b * d) : (zsub (zscale rest c) (zraise (zscale b d) (rest.length - b.length))).length + 1 ≤ rest.length := by
  have hb' : 0 < b.length := List.length_pos_iff.mpr hb
  obtain ⟨n, hn⟩ : ∃ n, rest.length = n + 1 := ⟨rest.length - 1, by omega⟩
  obtain ⟨m, hm⟩ : ∃ m, b.length = m + 1 := ⟨b.length - 1, by omega⟩
  have : (zsub (zscale rest c) (zraise (zscale b d) (rest.length - b.length))).length ≤ n := by
    unfold zsub
    refine zadd_len_lt ?_ ?_ ?_
    · have : (zscale rest c).length ≤ rest.length := by unfold zscale; split <;> simp
      omega
    · have h1 : (zscale b d).length ≤ b.length := by unfold zscale; split <;> simp
      have h2 : (zraise (zscale b d) (rest.length - b.length)).length ≤ (zscale b d).length + (rest.length - b.length) := by unfold zraise; split <;> simp; omega
      unfold zneg; rw [List.length_map]; omega
    · rw [zneg_getD, zscale_getD, zraise_getD, zscale_getD, if_neg (by omega)]
      rw [show n - (rest.length - b.length) = m by omega, ← lead_getD hn, ← lead_getD hm, e]; omega
  omega
end Mine
end

section
open PySem PySem.W PyProof.Rows PySem.Calls
namespace Mine
theorem has_mem {σ c : Ctx} (h : ∀ p ∈ c, σ.lookup p.1 = some p.2) : σ.has c := fun y av hy => h _ (mem_of_lookup' hy)
local macro_rules | `(tactic| walk_at "side") => `(tactic| first | with_reducible assumption | omega | (simp; done) | (simp; omega) | decide)
local macro_rules | `(tactic| walk_at "op") => `(tactic| first
  | exact B.add | exact B.sub | exact B.subb | exact B.addb | exact U.neg | exact C.lt | exact C.gt | exact C.eq | exact C.ne | exact C.le | exact C.ge | exact C.eqs | exact R.bool | exact N.add | exact N.sub
  | exact B.mul (by walk_at "side") | exact B.mod (by walk_at "side") | exact B.div (by walk_at "side") (by walk_at "side") | exact U.not R.bool
  | exact B.addL (by walk_at "side") | exact B.rep (by walk_at "side") (by walk_at "side") | exact isNotNone_none | exact isNotNone_tup | exact B.pow (by walk_at "side") (by walk_at "side"))
local macro_rules | `(tactic| walk_at "bi") => `(tactic| first
  | exact F.abs | exact F.max2 | exact F.sum | exact F.any | exact F.len (by walk_at "side") | exact F.list (by walk_at "side"))
local macro_rules | `(tactic| walk_at "idx") => `(tactic| first | rfl | assumption)
local macro_rules | `(tactic| walk_at "get") => `(tactic| first
  | exact G.tup rfl rfl (by walk_at "side")
  | exact G.list (by walk_at "idx") (by walk_at "idx") (by walk_at "side"))
local macro_rules | `(tactic| walk_at "st") => `(tactic| first | exact .inl (by decide +kernel) | exact .inr (by decide +kernel))
local macro_rules | `(tactic| walk_at "sts") => `(tactic| (repeat (first | exact fa_nil | refine fa_cons (by walk_at "st") ?_)))
local macro_rules | `(tactic| walk_at "get") => `(tactic| first
  | exact G.tup rfl rfl (by walk_at "side")
  | exact G.atI (by walk_at "side") (by walk_at "side") (by walk_at "side")
  | exact G.last (by walk_at "side") (by walk_at "side")
  | exact G.list (by walk_at "idx") (by walk_at "idx") (by walk_at "side"))
local macro_rules | `(tactic| walk_at "inner") => `(tactic| refine Inner.of (by (repeat (first | exact fa_nil | refine fa_cons ⟨rfl, rfl, _, rfl⟩ ?_))) (by (repeat (first | exact fa_nil | refine fa_cons (by first | (intro _; rfl) | (intro hf; cases hf; done)) ?_))))
local macro_rules | `(tactic| walk_at "has") => `(tactic| exact has_mem (by (repeat (first | exact fa_nil | refine fa_cons (by rfl) ?_))))

section
open PySem PySem.W PyProof.Rows PySem.Calls
set_option maxRecDepth 100000
variable {Γ : Gl}


theorem c_rcompare {k : Nat} {p q : Int × Int} (h1 : IntMulOk p.1 q.2) (h2 : IntMulOk q.1 p.2) : Cf Γ (k + 1) (S "rcompare") [dq p, dq q] (.int (rcmp p q)) :=
  ⟨of_rcompare (o := .ret _) (X.ok (X.assign (E.bin (E.bin (E.sub (E.name rfl) E.int (by walk_at "get")) (E.sub (E.name rfl) E.int (by walk_at "get")) (by walk_at "op")) (E.bin (E.sub (E.name rfl) E.int (by walk_at "get")) (E.sub (E.name rfl) E.int (by walk_at "get")) (by walk_at "op")) (by walk_at "op")) (by walk_at "st") (X.ret (E.bin (E.cmp (E.name rfl) E.int (by walk_at "op")) (E.cmp (E.name rfl) E.int (by walk_at "op")) (by walk_at "op")))))⟩

theorem c_gcd {k : Nat} {a b : Int} : Cf Γ (k + 1) (S "gcd") [.int a, .int b] (.int (gcdI a b)) := by
  refine ⟨of_gcd (o := .ret _) (X.ok (X.swapR (ns := [S "a", S "b"]) rfl (M.d (E.bcall b_abs (L.cons (E.name rfl) L.nil) (by walk_at "bi") rfl) (M.d (E.bcall b_abs (L.cons (E.name rfl) L.nil) (by walk_at "bi") rfl) M.nil)) (by walk_at "sts") (by decide +kernel) fun _ _ => ?_))⟩
  rw [abs_if, abs_if]
  refine X.while (J := fun σ => σ.has [(S "a", .d (.int (gcdI a b))), (S "b", .d (.int 0))]) ?_ fun σ2 e => X.has (X.ret (E.name rfl)) e
  unfold gcdI Int.gcd
  generalize a.natAbs = x
  generalize b.natAbs = y
  show W _ _ _ _ _ _ [(S "a", .d (.int x)), (S "b", .d (.int y))] _
  induction y using Nat.strongRecOn generalizing x with
  | ind y ih =>
    by_cases h : y = 0
    · subst h
      exact W.stop (T.conv (T.cmp (E.name rfl) E.int (by walk_at "op")) (by simp)) (by simp only [Nat.gcd_zero_right]; exact has_refl)
    · refine W.turn (J := fun σ => σ.has [(S "a", .d (.int y)), (S "b", .d (.int (x % y : Nat)))]) (T.conv (T.cmp (E.name rfl) E.int (by walk_at "op")) (by simp; omega)) (X.swapR (ns := [S "a", S "b"]) rfl (M.d (E.name rfl) (M.d (E.bin (E.name rfl) (E.name rfl) (by walk_at "op")) M.nil)) (by walk_at "sts") (by decide +kernel) fun _ _ => X.done ?_) fun σ2 hσ => ?_
      · rw [show ((x : Int).fmod (y : Int)) = ((x % y : Nat) : Int) by rw [Int.fmod_eq_emod_of_nonneg _ (by omega)]; simp]
        exact has_refl
      · have := ih (x % y) (Nat.mod_lt _ (by omega)) y
        rw [show y.gcd (x % y) = x.gcd y by rw [Nat.gcd_comm x y, Nat.gcd_rec y x, Nat.gcd_comm]] at this
        exact W.has this hσ
theorem c_gcd_all {k : Nat} {l : List Int} : Cf Γ (k + 2) (S "gcd_all") [il l] (.int (gcdAll l)) := by
  refine ⟨of_gcd_all (o := .ret _) (X.ok (X.assign E.int (by walk_at "st") ?_))⟩
  refine X.forH (fun i => [(S "numbers", .d (il l)), (S "found", .d (.int (gcdAll (l.take i))))]) (I.list (E.name rfl)) has_refl (fun i d hd => ?_) (X.ret (E.conv (E.name rfl) (by rw [List.length_map, List.take_length])))
  obtain ⟨x, hx, rfl⟩ := map_get hd
  refine ⟨_, A.name (by walk_at "st"), X.assign (E.call (L.cons (E.name rfl) (L.cons (E.name rfl) L.nil)) c_gcd rfl) (by walk_at "st") (X.done (has_take 2 ?_))⟩
  rw [show gcdAll (l.take (i + 1)) = gcdI (gcdAll (l.take i)) x by unfold gcdAll; rw [List.take_add_one, hx, List.foldl_append]; rfl]
  rfl
theorem c_zneg {k : Nat} {l : List Int} (hl : l.length ≤ 1000) : Cf Γ (k + 1) (S "zneg") [il l] (il (zneg l)) := by
  refine ⟨of_zneg (o := .ret _) (X.ok (X.ret (E.conv (E.compMap (σc := []) l .int (fun c => .int (-c)) (I.list (E.name rfl)) (by decide +kernel) (by walk_at "inner") hl (fun x _ => ⟨_, A.name (by walk_at "st"), El.some (E.un (E.name rfl) (by walk_at "op")) (has_take 0 rfl)⟩)) ?_)))⟩
  simp [zneg, Function.comp_def]
theorem toNat_pred (n : Nat) : (((n + 1 : Nat) : Int) - 1).toNat = n := by omega
theorem c_ztrim {k : Nat} {l : List Int} (hl : l.length ≤ 1000) : Cf Γ (k + 1) (S "ztrim") [il l] (il (trim l)) := by
  refine ⟨of_ztrim (o := .ret _) (X.ok (X.assign (E.bcall b_len (L.cons (E.name rfl) L.nil) (by walk_at "bi") rfl) (by walk_at "st") ?_))⟩
  refine X.while (J := fun σ => σ.has [(S "row", .d (il l)), (S "size", .d (.int (trimSz l l.length : Nat)))]) ?_ fun σ2 e => X.has (X.ret (E.conv (E.tcall b_list (L.cons (E.upto (E.name rfl) (E.name rfl) (by walk_at "side") (by walk_at "side")) L.nil) (F.list ?_) rfl) ?_)) e
  · rw [List.length_map]
    generalize hm : l.length = n
    have hn : n ≤ l.length := by omega
    clear hm
    show W _ _ _ _ _ _ [(S "row", .d (il l)), (S "size", .d (.int n))] _
    induction n with
    | zero => exact W.stop (T.conv (T.and (c' := false) (T.cmp (E.name rfl) E.int (by walk_at "op")) fun hc => by simp at hc) (by simp)) has_refl
    | succ n ih =>
      by_cases h : l.getD n 0 = 0
      · refine W.turn (J := fun σ => σ.has [(S "row", .d (il l)), (S "size", .d (.int n))]) (T.conv (T.and (T.cmp (E.name rfl) E.int (by walk_at "op")) fun hc => (T.cmp (E.sub (E.name rfl) (E.bin (E.name rfl) E.int (by walk_at "op")) (by walk_at "get")) E.int (by walk_at "op"))) ?_) (X.aug rfl E.int N.sub (by walk_at "st") (X.done ?_)) fun σ2 hσ => W.has ?_ hσ
        · rw [toNat_pred, h]; simp
        · refine has_take 2 ?_
          rw [show (((n + 1 : Nat) : Int) - 1) = (n : Int) by omega]; rfl
        · have := ih (by omega)
          rw [show trimSz l (n + 1) = trimSz l n by rw [trimSz, if_pos h]]
          exact this
      · refine W.stop (T.conv (T.and (T.cmp (E.name rfl) E.int (by walk_at "op")) fun hc => (T.cmp (E.sub (E.name rfl) (E.bin (E.name rfl) E.int (by walk_at "op")) (by walk_at "get")) E.int (by walk_at "op"))) ?_) ?_
        · rw [toNat_pred]; simpa using h
        · rw [show trimSz l (n + 1) = n + 1 by rw [trimSz, if_neg h]]; exact has_refl
  · simp; omega
  · simp [trim, List.map_take]
theorem c_zlead {k : Nat} {l : List Int} (hl : l.length ≤ 1000) : Cf Γ (k + 1) (S "zlead") [il l] (.int (lead l)) := by
  refine ⟨of_zlead (o := .ret _) (X.ok (X.ret (E.ite (T.cmp (E.bcall b_len (L.cons (E.name rfl) L.nil) (by walk_at "bi") rfl) E.int (by walk_at "op")) (fun hc => ?_) fun hc => E.conv E.int ?_)))⟩
  · have : l ≠ [] := by intro e; subst e; simp at hc
    exact (E.sub (E.name rfl) (E.un E.int (by walk_at "op")) (by walk_at "get"))
  · have : l = [] := by simpa using hc
    subst this; rfl
theorem zadd_pre (a b : List Int) : (if (b.length : Int) > a.length then (b.length : Int) else a.length) = ((max a.length b.length : Nat) : Int) := by split <;> omega
theorem getD_if (a : List Int) (i : Nat) : (if decide ((i : Int) < a.length) = true then a.getD i 0 else 0) = a.getD i 0 := by
  split
  · rfl
  · rename_i h; simp at h; simp [h]
theorem c_zadd {k : Nat} {a b : List Int} (ha : a.length ≤ 1000) (hb : b.length ≤ 1000) : Cf Γ (k + 2) (S "zadd") [il a, il b] (il (zadd a b)) := by
  refine ⟨of_zadd (o := .ret _) (X.ok (X.assign (E.conv (d' := .int ((max a.length b.length : Nat) : Int)) (E.bcall b_max (L.cons (E.bcall b_len (L.cons (E.name rfl) L.nil) (by walk_at "bi") rfl) (L.cons (E.bcall b_len (L.cons (E.name rfl) L.nil) (by walk_at "bi") rfl) L.nil)) (by walk_at "bi") rfl) ?_) (by walk_at "st") (X.ret (E.call (L.cons (E.compMap (σc := [(S "a", .d (il a)), (S "b", .d (il b))]) (List.range (max a.length b.length)) (fun i : Nat => .int (0 + (i : Int))) (fun i => .int (a.getD i 0 + b.getD i 0)) (I.conv (I.range1 (E.name rfl) (by walk_at "side") rfl) ?_) (by decide +kernel) (by walk_at "inner") ?_ ?_) L.nil) (d := il (zadd a b)) ?_ rfl))))⟩
  · simp only [List.length_map]; rw [zadd_pre]
  · simp [rangeD]
  · simp; omega
  · intro i hi
    have hi : i < max a.length b.length := by simpa using hi
    refine ⟨_, A.name (by walk_at "st"), El.some (E.conv (d' := .int (a.getD i 0 + b.getD i 0)) (E.bin (E.condI (d := a.getD i 0) (T.cmp (E.name rfl) (E.bcall b_len (L.cons (E.name rfl) L.nil) (by walk_at "bi") rfl) (by walk_at "op")) (fun hc => E.conv (E.sub (E.name rfl) (E.name rfl) (G.atI (by walk_at "side") (by simp at hc; omega) ha)) ?_) fun hc => E.int) (E.condI (d := b.getD i 0) (T.cmp (E.name rfl) (E.bcall b_len (L.cons (E.name rfl) L.nil) (by walk_at "bi") rfl) (by walk_at "op")) (fun hc => E.conv (E.sub (E.name rfl) (E.name rfl) (G.atI (by walk_at "side") (by simp at hc; omega) hb)) ?_) fun hc => E.int) (by walk_at "op")) ?_) (has_take 2 rfl)⟩
    · simp
    · simp
    · simp only [List.length_map, Int.zero_add]; rw [getD_if, getD_if]
  · have := c_ztrim (Γ := Γ) (k := k) (l := (List.range (max a.length b.length)).map fun i => a.getD i 0 + b.getD i 0) (by simp; omega)
    unfold zadd
    rw [show (.list ((List.range (max a.length b.length)).map fun i => D.int (a.getD i 0 + b.getD i 0)) : D) = il ((List.range (max a.length b.length)).map fun i => a.getD i 0 + b.getD i 0) by simp [Function.comp_def]]
    exact this
theorem trimSz_le (l : List Int) : ∀ n, trimSz l n ≤ n
  | 0 => Nat.le_refl _
  | n + 1 => by
    have := trimSz_le l n
    unfold trimSz; split <;> omega
theorem trim_len (l : List Int) : (trim l).length ≤ l.length := by unfold trim; simp; omega
theorem zadd_len (a b : List Int) : (zadd a b).length ≤ max a.length b.length := by
  have := trim_len ((List.range (max a.length b.length)).map fun i => a.getD i 0 + b.getD i 0)
  unfold zadd; simpa using this
theorem zneg_len (a : List Int) : (zneg a).length = a.length := by unfold zneg; simp
theorem zsub_len (a b : List Int) : (zsub a b).length ≤ max a.length b.length := by have := zadd_len a (zneg b); rwa [zneg_len] at this
theorem zscale_len (a : List Int) (c : Int) : (zscale a c).length ≤ a.length := by unfold zscale; split <;> simp
theorem zraise_len (a : List Int) (m : Nat) : (zraise a m).length ≤ a.length + m := by unfold zraise; split <;> simp; omega
theorem c_zsub {k : Nat} {a b : List Int} (ha : a.length ≤ 1000) (hb : b.length ≤ 1000) : Cf Γ (k + 3) (S "zsub") [il a, il b] (il (zsub a b)) :=
  ⟨of_zsub (o := .ret _) (X.ok (X.ret (E.call (L.cons (E.name rfl) (L.cons (E.call (L.cons (E.name rfl) L.nil) (c_zneg hb) rfl) L.nil)) (c_zadd ha (by rw [zneg_len]; exact hb)) rfl)))⟩
theorem c_zscale {k n m : Nat} {p : List Int} {c : Int} (hl : p.length ≤ 1000) (h1 : SmL n p) (h2 : Sm m c) (h : n + m ≤ 2 ^ 20) : Cf Γ (k + 1) (S "zscale") [il p, .int c] (il (zscale p c)) := by
  refine ⟨of_zscale (o := .ret _) (X.ok (X.ret (E.ite (σ2 := [(S "p", .d (il p)), (S "k", .d (.int c))]) (T.cmp (E.name rfl) E.int (by walk_at "op")) (fun hc => E.conv (E.compMap (σc := [(S "k", .d (.int c))]) p .int (fun x => .int (x * c)) (I.list (E.name rfl)) (by decide +kernel) (by walk_at "inner") hl (fun x hx => ⟨_, A.name (by walk_at "st"), El.some (E.bin (E.name rfl) (E.name rfl) (B.mul ((h1 x hx).ok h2 h))) (has_take 1 rfl)⟩)) ?_) fun hc => E.conv (E.lst L.nil (by simp)) ?_)))⟩
  · have : c ≠ 0 := by simpa using hc
    simp [zscale, this, Function.comp_def]
  · have : c = 0 := by simpa using hc
    simp [zscale, this]
theorem c_zraise {k : Nat} {p : List Int} {m : Nat} (hl : p.length + m ≤ 1000) : Cf Γ (k + 1) (S "zraise") [il p, .int m] (il (zraise p m)) := by
  refine ⟨of_zraise (o := .ret _) (X.ok (X.ret (E.ite (σ2 := [(S "p", .d (il p)), (S "many", .d (.int m))]) (T.cmp (E.bcall b_len (L.cons (E.name rfl) L.nil) (by walk_at "bi") rfl) E.int (by walk_at "op")) (fun hc => E.conv (E.bin (E.bin (E.lst (L.cons E.int L.nil) (by walk_at "side")) (E.name rfl) (B.rep (by omega) (by omega))) (E.tcall b_list (L.cons (E.name rfl) L.nil) (F.list (by simp; omega)) rfl) (B.addL (by simp; omega))) ?_) fun hc => E.conv (E.lst L.nil (by simp)) ?_)))⟩
  · have : p ≠ [] := by intro e; subst e; simp at hc
    simp [zraise, this]
  · have : p = [] := by simpa using hc
    simp [zraise, this]
theorem c_zcontent {k : Nat} {p : List Int} : Cf Γ (k + 3) (S "zcontent") [il p] (.int (gcdAll p)) :=
  ⟨of_zcontent (o := .ret _) (X.ok (X.ret (E.call (L.cons (E.name rfl) L.nil) c_gcd_all rfl)))⟩
theorem c_zdivided {k n : Nat} {p : List Int} {c : Int} (hl : p.length ≤ 1000) (h0 : c ≠ 0) (h2 : Sm n c) (hn : n ≤ 9000) : Cf Γ (k + 1) (S "zdivided") [il p, .int c] (il (zdivided p c)) := by
  refine ⟨of_zdivided (o := .ret _) (X.ok (X.ret (E.conv (E.compMap (σc := [(S "k", .d (.int c))]) p .int (fun x => .int (x.fdiv c)) (I.list (E.name rfl)) (by decide +kernel) (by walk_at "inner") hl (fun x hx => ⟨_, A.name (by walk_at "st"), El.some (E.bin (E.name rfl) (E.name rfl) (B.div h0 (h2.log hn))) (has_take 1 rfl)⟩)) ?_)))⟩
  simp [zdivided, Function.comp_def]
theorem c_zprimitive {k n : Nat} {p : List Int} (hl : p.length ≤ 1000) (h0 : gcdAll p ≠ 0 ∨ p = []) (h2 : SmL n p) (hn : n ≤ 9000) : Cf Γ (k + 4) (S "zprimitive") [il p] (il (zprim p)) := by
  by_cases hp : p = []
  · subst hp
    exact ⟨of_zprimitive (o := .ret _) (X.ok (X.iteR (T.conv (T.cmp (E.bcall b_len (L.cons (E.name rfl) L.nil) (by walk_at "bi") rfl) E.int (by walk_at "op")) (by simp)) (X.ret (E.lst (ds := []) L.nil (by simp)))))⟩
  · have h0 := h0.resolve_right hp
    have hg := gcdAll_sm h2
    refine ⟨of_zprimitive (o := .ret _) (X.ok (X.skip (T.conv (T.cmp (E.bcall b_len (L.cons (E.name rfl) L.nil) (by walk_at "bi") rfl) E.int (by walk_at "op")) (by simpa using hp)) (X.assign (E.call (L.cons (E.name rfl) L.nil) c_zcontent rfl) (by walk_at "st") (X.ret (E.call (L.cons (E.name rfl) (L.cons (E.condI (T.cmp (E.sub (E.name rfl) (E.un E.int (by walk_at "op")) (by walk_at "get")) E.int (by walk_at "op")) (fun hc => (E.name rfl)) fun hc => (E.un (E.name rfl) (by walk_at "op"))) L.nil)) (d := il (zprim p)) ?_ rfl)))))⟩
    unfold zprim
    rw [if_neg hp]
    have key : ∀ c, c ≠ 0 → Sm n c → Cf Γ (k + 3) (S "zdivided") [il p, .int c] (il (zdivided p c)) := fun c a b => c_zdivided hl a b hn
    by_cases hq : lead p > 0
    · rw [if_pos hq, if_pos (by simpa using hq)]; exact key _ h0 hg
    · rw [if_neg hq, if_neg (by simpa using hq)]; exact key _ (by omega) hg.neg
theorem c_zderive {k n : Nat} {p : List Int} (hl : p.length ≤ 1000) (h2 : SmL n p) (hn : n ≤ 9000) : Cf Γ (k + 1) (S "zderive") [il p] (il (zder p)) := by
  refine ⟨of_zderive (o := .ret _) (X.ok (X.ret (E.conv (E.from (E.comp (σc := []) (res := il' (dgo 0 p)) (I.enum (E.name rfl) rfl) (by decide +kernel) (by walk_at "inner") ?_ (fun i => (p[i]?).map fun c => .int (c * (i : Int))) ?_ ?_) E.int (by simp) ?_) ?_)))⟩
  · rw [enumD_len]; simpa using hl
  · intro i d hd
    obtain ⟨d', h1, rfl⟩ := enumD_get hd
    obtain ⟨x, hx, rfl⟩ := map_get h1
    simp only [hx, Option.map_some, Nat.zero_add]
    refine ⟨_, A.tup (AL.cons (A.name (by walk_at "st")) (AL.cons (A.name (by walk_at "st")) AL.nil)), El.some (E.bin (E.name rfl) (E.name rfl) (B.mul ?_)) (has_take 0 rfl)⟩
    have hi : i < p.length := (List.getElem?_eq_some_iff.mp hx).1
    refine (h2 x (List.mem_of_getElem? hx)).ok (m := 10) ?_ (by omega)
    unfold Sm; rw [Int.natAbs_natCast]; omega
  · rw [enumD_len, List.length_map]
    have key : ∀ (q : List Int) (i : Nat), (p.drop i) = q → i ≤ p.length → outsTo (fun i => (p[i]?).map fun c => D.int (c * (i : Int))) i ++ il' (dgo i q) = outsTo (fun i => (p[i]?).map fun c => D.int (c * (i : Int))) p.length := by
      intro q
      induction q with
      | nil =>
        intro i h hi
        have : i = p.length := by have := congrArg List.length h; simp at this; omega
        subst this; simp [dgo]
      | cons c q ih =>
        intro i h hi
        have hlt : i < p.length := by have := congrArg List.length h; simp at this; omega
        have hc : p[i]? = some c := by rw [← List.head?_drop, h]; rfl
        have h2 : p.drop (i + 1) = q := by rw [← List.tail_drop, h]; rfl
        rw [← ih (i + 1) h2 hlt, outsTo]
        simp [hc, dgo]
    have := key p 0 (by simp) (Nat.zero_le _)
    rw [← this]; rfl
  · have : ∀ (q : List Int) (i : Nat), (dgo i q).length = q.length := by
      intro q; induction q with
      | nil => intro i; rfl
      | cons c q ih => intro i; simp [dgo, ih]
    simp [this]; exact hl
  · simp [zder, List.map_drop]
theorem c_check_bottom {k : Nat} {p : List Int} (hl : p.length ≤ 1000) (h : p ≠ []) : Cf Γ (k + 1) (S "check_bottom") [il p] .none :=
  ⟨of_check_bottom (o := .to _) (X.ok (X.skip (T.conv (T.cmp (E.bcall b_len (L.cons (E.name rfl) L.nil) (by walk_at "bi") rfl) E.int (by walk_at "op")) (by simpa using h)) X.nil))⟩
end

section
open PySem PySem.W PyProof.Rows PySem.Calls
set_option maxRecDepth 100000
variable {Γ : Gl}


theorem SmL.zsub {n : Nat} {a b : List Int} (h : SmL n a) (k : SmL n b) : SmL (n + 1) (zsub a b) := SmL.of_getD fun i => by rw [zsub_getD]; exact (h.getD i).sub (k.getD i)
theorem SmL.zscale {n m : Nat} {a : List Int} {c : Int} (h : SmL n a) (k : Sm m c) : SmL (n + m) (zscale a c) := SmL.of_getD fun i => by rw [zscale_getD]; exact (h.getD i).mul k
theorem SmL.zraise {n m : Nat} {a : List Int} (h : SmL n a) : SmL n (zraise a m) := SmL.of_getD fun i => by
  rw [zraise_getD]; split
  · exact Sm.zero
  · exact h.getD _
theorem SmL.nil {n : Nat} : SmL n [] := fun _ h => nomatch h
theorem SmL.one {n : Nat} {c : Int} (h : Sm n c) : SmL n [c] := fun x hx => by rw [List.mem_singleton.mp hx]; exact h
theorem SmL.lead {n : Nat} {a : List Int} (h : SmL n a) : Sm n (lead a) := h.getD _

theorem psGo_len {b : List Int} (hb : b ≠ []) : ∀ (f : Nat) (rest found : List Int) (left : Int), rest.length < b.length + f → (psGo b (lead b) f rest found left).2.1.length < b.length
  | 0, rest, found, left, h => by simpa [psGo] using h
  | f + 1, rest, found, left, h => by
    unfold psGo
    split
    · rename_i hl
      have := turn_len hb hl (Int.mul_comm (lead rest) (lead b))
      exact psGo_len hb f _ _ _ (by omega)
    · rename_i hl; simpa using by omega
noncomputable abbrev psCtx (a b rest found : List Int) (left : Int) : Ctx :=
  [(S "a", .d (il a)), (S "b", .d (il b)), (S "many", .d (.int (psMany a b))), (S "rest", .d (il rest)), (S "found", .d (il found)), (S "left", .d (.int left)), (S "first", .d (.int (lead b)))]
theorem w_pseudo {k s : Nat} {a b : List Int} (lb : b.length ≤ 50) (hb : b ≠ []) (sb : SmL s b) : ∀ (f : Nat) (rest found : List Int) (left : Int) (e : Nat), rest.length < b.length + f → rest.length ≤ 50 → found.length ≤ 50 → SmL e rest → SmL e found → s ≤ e → e + f * (s + 1) ≤ 2 ^ 18 → (f : Int) ≤ left → left ≤ 8 →
    W Γ (fS 26) (k + 3) (whT 26) (whB 26) [] (psCtx a b rest found left) (.next fun σ => σ.has (psCtx a b (psGo b (lead b) f rest found left).2.1 (psGo b (lead b) f rest found left).1 (psGo b (lead b) f rest found left).2.2) ∧
      (psGo b (lead b) f rest found left).1.length ≤ 50 ∧ SmL (e + f * (s + 1)) (psGo b (lead b) f rest found left).1 ∧ SmL (e + f * (s + 1)) (psGo b (lead b) f rest found left).2.1 ∧ 0 ≤ (psGo b (lead b) f rest found left).2.2 ∧ (psGo b (lead b) f rest found left).2.2 ≤ 8)
  | 0, rest, found, left, e, h1, h2, h3, h4, h5, h6, h7, h8, h9 => by
    refine W.stop (T.conv (T.cmp (E.bcall b_len (L.cons (E.name rfl) L.nil) (by walk_at "bi") rfl) (E.bcall b_len (L.cons (E.name rfl) L.nil) (by walk_at "bi") rfl) (by walk_at "op")) (by simp; omega)) ?_
    simp only [psGo]
    exact ⟨has_refl, h3, h5.mono (by omega), h4.mono (by omega), by omega, h9⟩
  | f + 1, rest, found, left, e, h1, h2, h3, h4, h5, h6, h7, h8, h9 => by
    by_cases hl : rest.length ≥ b.length
    · have hb0 : 0 < b.length := List.length_pos_iff.mpr hb
      have hr : rest ≠ [] := by intro e; subst e; exact hb (by simpa using hl)
      have e1 : e + (f + 1) * (s + 1) = (e + s + 1) + f * (s + 1) := by rw [Nat.add_mul]; omega
      have tl := turn_len hb hl (Int.mul_comm (lead rest) (lead b))
      have sb' := sb.mono h6
      have hp : ((rest.length : Int) - b.length) = ((rest.length - b.length : Nat) : Int) := by omega
      have l1 : (zraise [-lead rest] (rest.length - b.length)).length ≤ 50 := Nat.le_trans (zraise_len [-lead rest] _) (by rw [List.length_singleton]; omega)
      have l2 : (zraise (zscale b (lead rest)) (rest.length - b.length)).length ≤ 50 := Nat.le_trans (zraise_len _ _) (by have := zscale_len b (lead rest); omega)
      have l3 := zscale_len found (lead b)
      have l4 := zscale_len rest (lead b)
      have s1 : SmL (e + s + 1) (zsub (zscale found (lead b)) (zraise [-lead rest] (rest.length - b.length))) := (h5.zscale sb.lead).zsub ((SmL.one h4.lead.neg).zraise.mono (by omega))
      have s2 : SmL (e + s + 1) (zsub (zscale rest (lead b)) (zraise (zscale b (lead rest)) (rest.length - b.length))) := (h4.zscale sb.lead).zsub (((sb.zscale h4.lead).mono (by omega)).zraise)
      refine W.turn (J := fun σ => σ.has (psCtx a b (zsub (zscale rest (lead b)) (zraise (zscale b (lead rest)) (rest.length - b.length))) (zsub (zscale found (lead b)) (zraise [-lead rest] (rest.length - b.length))) (left - 1))) (T.conv (T.cmp (E.bcall b_len (L.cons (E.name rfl) L.nil) (by walk_at "bi") rfl) (E.bcall b_len (L.cons (E.name rfl) L.nil) (by walk_at "bi") rfl) (by walk_at "op")) (by simp; omega))
        (X.swapR (ns := [S "number", S "power"]) rfl (M.d (E.sub (E.name rfl) (E.un E.int (by walk_at "op")) (G.last hr (by omega))) (M.d (E.conv (d' := .int ((rest.length - b.length : Nat) : Int)) (E.bin (E.bcall b_len (L.cons (E.name rfl) L.nil) (by walk_at "bi") rfl) (E.bcall b_len (L.cons (E.name rfl) L.nil) (by walk_at "bi") rfl) (by walk_at "op")) (by simp only [List.length_map]; rw [hp])) M.nil)) (by walk_at "sts") (by decide +kernel) fun _ _ =>
        X.assign (E.call (L.cons (E.call (L.cons (E.name rfl) (L.cons (E.name rfl) L.nil)) (c_zscale (by omega) h5 sb.lead (by omega)) rfl) (L.cons (E.call (L.cons (E.lst (L.cons (E.un (E.name rfl) (by walk_at "op")) L.nil) (by walk_at "side")) (L.cons (E.name rfl) L.nil)) (c_zraise (p := [-lead rest]) (by simp; omega)) rfl) L.nil)) (c_zsub (by omega) (by omega)) rfl) (by walk_at "st")
        (X.assign (E.call (L.cons (E.call (L.cons (E.name rfl) (L.cons (E.name rfl) L.nil)) (c_zscale (by omega) h4 sb.lead (by omega)) rfl) (L.cons (E.call (L.cons (E.call (L.cons (E.name rfl) (L.cons (E.name rfl) L.nil)) (c_zscale (by omega) sb h4.lead (by omega)) rfl) (L.cons (E.name rfl) L.nil)) (c_zraise (by have := zscale_len b (lead rest); omega)) rfl) L.nil)) (c_zsub (by omega) (by omega)) rfl) (by walk_at "st")
        (X.aug rfl E.int N.sub (by walk_at "st") (X.done (has_take 7 rfl))))) fun σ2 hσ => ?_
      have ih := w_pseudo (k := k) (a := a) lb hb sb f (zsub (zscale rest (lead b)) (zraise (zscale b (lead rest)) (rest.length - b.length))) (zsub (zscale found (lead b)) (zraise [-lead rest] (rest.length - b.length))) (left - 1) (e + s + 1) (by omega) (by omega)
        (Nat.le_trans (zsub_len _ _) (by omega)) s2 s1 (by omega) (by omega) (by omega) (by omega)
      have eq : psGo b (lead b) (f + 1) rest found left = psGo b (lead b) f (zsub (zscale rest (lead b)) (zraise (zscale b (lead rest)) (rest.length - b.length))) (zsub (zscale found (lead b)) (zraise [-lead rest] (rest.length - b.length))) (left - 1) := by
        rw [psGo, if_pos hl]
      rw [eq, e1]
      exact W.has ih hσ
    · refine W.stop (T.conv (T.cmp (E.bcall b_len (L.cons (E.name rfl) L.nil) (by walk_at "bi") rfl) (E.bcall b_len (L.cons (E.name rfl) L.nil) (by walk_at "bi") rfl) (by walk_at "op")) (by simp; omega)) ?_
      have eq : psGo b (lead b) (f + 1) rest found left = (found, rest, left) := by rw [psGo, if_neg hl]
      rw [eq]
      exact ⟨has_refl, h3, h5.mono (by omega), h4.mono (by omega), (by show 0 ≤ left; omega), h9⟩
theorem many_pre (a b : List Int) : (if ((a.length : Int) - b.length + 1) > 0 then ((a.length : Int) - b.length + 1) else 0) = (psMany a b : Int) := by unfold psMany; split <;> omega
theorem Sm.pow {n : Nat} {a : Int} (h : Sm n a) : ∀ m : Nat, Sm (n * m + 1) (a ^ m)
  | 0 => by simp; exact Sm.one
  | m + 1 => by
    have h1 := Sm.pow h m
    unfold Sm at *
    rw [Int.pow_succ, Int.natAbs_mul]
    refine Nat.lt_of_le_of_lt (Nat.mul_le_mul_left _ (Nat.le_of_lt h)) ?_
    rw [show n * (m + 1) + 1 = n * m + 1 + n by rw [Nat.mul_add]; omega, Nat.pow_add]
    exact Nat.mul_lt_mul_of_pos_right h1 (Nat.two_pow_pos n)
theorem c_pseudo {k s : Nat} {a b : List Int} (la : a.length ≤ 50) (lb : b.length ≤ 50) (hb : b ≠ []) (sa : SmL s a) (sb : SmL s b) (hs : s ≤ 20000) (hm : psMany a b ≤ 8) : Cf Γ (k + 4) (S "pseudo") [il a, il b] (.tup [il (psQuo a b), il (psRest a b), .int (psMany a b)]) := by
  have hmul : psMany a b * (s + 1) ≤ 8 * 20001 := Nat.mul_le_mul hm (by omega)
  refine ⟨of_pseudo (o := .ret _) (X.ok (X.expr (E.call (L.cons (E.name rfl) L.nil) (c_check_bottom (by omega) hb) rfl) (X.assign (E.conv (d' := .int (psMany a b)) (E.bcall b_max (L.cons E.int (L.cons (E.bin (E.bin (E.bcall b_len (L.cons (E.name rfl) L.nil) (by walk_at "bi") rfl) (E.bcall b_len (L.cons (E.name rfl) L.nil) (by walk_at "bi") rfl) (by walk_at "op")) E.int (by walk_at "op")) L.nil)) (by walk_at "bi") rfl) (by simp only [List.length_map]; rw [many_pre])) (by walk_at "st")
    (X.swapF (ns := [S "rest", S "found", S "left", S "first"]) (.cons (.cons (.cons (.cons .nil)))) rfl (M.d (E.tcall b_list (L.cons (E.name rfl) L.nil) (F.list (by simp; omega)) rfl) (M.d (E.lst (ds := il' []) L.nil (by simp)) (M.d (E.name rfl) (M.d (E.call (L.cons (E.name rfl) L.nil) (c_zlead (by omega)) rfl) M.nil)))) (by walk_at "sts") fun _ _ =>
    (X.while (w_pseudo (k := k) (a := a) lb hb sb (psMany a b) a [] (psMany a b) s (by unfold psMany; omega) la (by simp) sa SmL.nil (Nat.le_refl _) (by omega) (Int.le_refl _) (by omega)) fun σ2 hσ => ?_)))))⟩
  obtain ⟨h, h1, h2, h3, h4, h5⟩ := hσ
  have h6 := psGo_len hb (psMany a b) a [] (psMany a b) (by unfold psMany; omega)
  refine X.has ?_ h
  show X Γ _ _ _ (psCtx a b (psRun a b).2.1 (psRun a b).1 (psRun a b).2.2) _
  have hp := sb.lead.pow (psRun a b).2.2.toNat
  have hq : s * (psRun a b).2.2.toNat ≤ 20000 * 8 := Nat.mul_le_mul hs (by have : (psRun a b).2.2 ≤ 8 := h5; omega)
  have e1 : psQuo a b = zscale (psRun a b).1 (lead b ^ (psRun a b).2.2.toNat) := rfl
  have e2 : psRest a b = zscale (psRun a b).2.1 (lead b ^ (psRun a b).2.2.toNat) := rfl
  rw [e1, e2]
  exact X.assign (E.bin (E.name rfl) (E.name rfl) (B.pow h4 (by
      have hbits := sb.lead.bits
      have hb2 : ((Builtin.Int.intBits (lead b) : Nat) : Int) * (psRun a b).2.2 ≤ 20000 * 8 := Int.mul_le_mul (by omega) h5 h4 (by omega)
      exact Int.le_trans hb2 (by decide)))) (by walk_at "st")
    (X.ret (E.tup (L.cons (E.call (L.cons (E.name rfl) (L.cons (E.name rfl) L.nil)) (c_zscale (by have : (psRun a b).1.length ≤ 50 := h1; omega) h2 hp (by omega)) rfl) (L.cons (E.call (L.cons (E.name rfl) (L.cons (E.name rfl) L.nil)) (c_zscale (by have : (psRun a b).2.1.length < b.length := h6; omega) h3 hp (by omega)) rfl) (L.cons (E.name rfl) L.nil))) (by simp)))
end

section
open PySem PySem.W PyProof.Rows PySem.Calls
set_option maxRecDepth 100000
variable {Γ : Gl}


theorem c_rat {k n : Nat} {t b : Int} (hb : b ≠ 0) (ht : Sm n t) (hb2 : Sm n b) (hn : n ≤ 9000) : Cf Γ (k + 2) (S "rat") [.int t, .int b] (dq (ratS t b)) := by
  have hg : ∀ g, g = (if b > 0 then gcdI t b else 0 - gcdI t b) → g ≠ 0 ∧ Sm n g := by
    rintro g rfl
    have h1 := gcdI_ne (a := t) hb
    have h2 := gcdI_sm ht hb2
    split
    · exact ⟨h1, h2⟩
    · exact ⟨by omega, by rw [show 0 - gcdI t b = -gcdI t b by omega]; exact h2.neg⟩
  obtain ⟨g0, g1⟩ := hg _ rfl
  have e : ratS t b = (t.fdiv (if b > 0 then gcdI t b else 0 - gcdI t b), b.fdiv (if b > 0 then gcdI t b else 0 - gcdI t b)) := rfl
  rw [e]
  generalize hgg : (if b > 0 then gcdI t b else 0 - gcdI t b) = g at *
  refine ⟨of_rat (o := .ret _) (X.ok (X.skip (T.conv (T.cmp (E.name rfl) E.int (by walk_at "op")) (by simpa using hb)) (X.assign (E.conv (d' := .int g) (E.condI (T.cmp (E.name rfl) E.int (by walk_at "op")) (fun hc => (E.call (L.cons (E.name rfl) (L.cons (E.name rfl) L.nil)) c_gcd rfl)) fun hc => (E.bin E.int (E.call (L.cons (E.name rfl) (L.cons (E.name rfl) L.nil)) c_gcd rfl) B.sub)) ?_) (by walk_at "st")
    (X.ret (E.tup (L.cons (E.bin (E.name rfl) (E.name rfl) (B.div g0 (g1.log hn))) (L.cons (E.bin (E.name rfl) (E.name rfl) (B.div g0 (g1.log hn))) L.nil)) (by simp))))))⟩
  rw [← hgg]
  congr 1
  by_cases h : b > 0
  · rw [if_pos h, if_pos (by simpa using h)]
  · rw [if_neg h, if_neg (by simpa using h)]
structure Okq (n : Nat) (q : Int × Int) : Prop where
  pos : 0 < q.2
  top : Sm n q.1
  bot : Sm n q.2
theorem Okq.mono {n m : Nat} {q : Int × Int} (h : Okq n q) (k : n ≤ m) : Okq m q := ⟨h.pos, h.top.mono k, h.bot.mono k⟩
theorem c_radd {k n : Nat} {p q : Int × Int} (hp : Okq n p) (hq : Okq n q) (hn : n ≤ 4000) : Cf Γ (k + 3) (S "radd") [dq p, dq q] (dq (raddS p q)) := by
  have h : p.2 * q.2 ≠ 0 := by have := Int.mul_pos hp.pos hq.pos; omega
  exact ⟨of_radd (o := .ret _) (X.ok (X.ret (E.call (L.cons (E.bin (E.bin (E.sub (E.name rfl) E.int (by walk_at "get")) (E.sub (E.name rfl) E.int (by walk_at "get")) (B.mul (hp.top.ok hq.bot (by omega)))) (E.bin (E.sub (E.name rfl) E.int (by walk_at "get")) (E.sub (E.name rfl) E.int (by walk_at "get")) (B.mul (hq.top.ok hp.bot (by omega)))) B.add) (L.cons (E.bin (E.sub (E.name rfl) E.int (by walk_at "get")) (E.sub (E.name rfl) E.int (by walk_at "get")) (B.mul (hp.bot.ok hq.bot (by omega)))) L.nil)) (c_rat (n := n + n + 1) h ((hp.top.mul hq.bot).add (hq.top.mul hp.bot)) ((hp.bot.mul hq.bot).mono (by omega)) (by omega)) rfl)))⟩
theorem c_rmul {k n : Nat} {p q : Int × Int} (hp : Okq n p) (hq : Okq n q) (hn : n ≤ 4000) : Cf Γ (k + 3) (S "rmul") [dq p, dq q] (dq (rmulS p q)) := by
  have h : p.2 * q.2 ≠ 0 := by have := Int.mul_pos hp.pos hq.pos; omega
  exact ⟨of_rmul (o := .ret _) (X.ok (X.ret (E.call (L.cons (E.bin (E.sub (E.name rfl) E.int (by walk_at "get")) (E.sub (E.name rfl) E.int (by walk_at "get")) (B.mul (hp.top.ok hq.top (by omega)))) (L.cons (E.bin (E.sub (E.name rfl) E.int (by walk_at "get")) (E.sub (E.name rfl) E.int (by walk_at "get")) (B.mul (hp.bot.ok hq.bot (by omega)))) L.nil)) (c_rat (n := n + n) h (hp.top.mul hq.top) (hp.bot.mul hq.bot) (by omega)) rfl)))⟩

theorem E.out {sc : Scope} {k : Nat} {σ σ1 σ2 : Ctx} {e : Expr} {d : D} (h : E Γ sc k e σ d σ1) (hs : σ1.has σ2) : E Γ sc k e σ d σ2 :=
  ⟨fun A env P g s Q R S a q => h.ok A env P g s Q R S a fun v P' g' h' tk st S' r => q v P' g' h' tk st (S'.weaken hs) r⟩
theorem has_nil {σ : Ctx} : σ.has [] := fun _ _ h => nomatch h
noncomputable abbrev exCtx (a b rest found : List Int) (ad : Addr) : Ctx := [(S "a", .d (il a)), (S "b", .d (il b)), (S "rest", .d (il rest)), (S "found", .own ad (.list (il' found)))]
theorem exEnd {k : Nat} {a b rest found : List Int} {ad : Addr} {test : Expr} (h3 : rest.length ≤ 50) (h4 : found.length ≤ 50) (hl : ¬ rest.length ≥ b.length) (h5 : b.length ≤ 50) (ht : T Γ (fS 25) (k + 3) test (exCtx a b rest found ad) false (exCtx a b rest found ad)) {body : List Stmt} :
    V Γ (fS 25) (k + 3) test body ((fB 25).drop 3) (exCtx a b rest found ad) (.ret (if rest = [] then il (trim found) else .none)) := by
  refine V.stop ht (X.ret (σ1 := []) ?_)
  by_cases hr : rest = []
  · rw [if_pos hr]
    exact E.ite (T.conv (c' := true) (T.cmp (E.bcall b_len (L.cons (E.name rfl) L.nil) (by walk_at "bi") rfl) E.int (by walk_at "op")) (by simp [hr])) (fun hc => (E.call (L.cons (E.nameOwn rfl) L.nil) (c_ztrim (by omega)) rfl).out has_nil) fun hc => by cases hc
  · rw [if_neg hr]
    exact E.ite (T.conv (c' := false) (T.cmp (E.bcall b_len (L.cons (E.name rfl) L.nil) (by walk_at "bi") rfl) E.int (by walk_at "op")) (by simpa using hr)) (fun hc => by cases hc) fun hc => E.none.out has_nil
theorem w_zexact {k s : Nat} {a b : List Int} {ad : Addr} (lb : b.length ≤ 50) (hb : b ≠ []) (h0 : lead b ≠ 0) (sb : SmL s b) (hs : s ≤ 9000) : ∀ (f : Nat) (rest found : List Int) (e : Nat) (r' f' : List Int), exGo b f rest found = some (r', f') → rest.length < b.length + f → rest.length + 1 ≤ b.length + found.length → rest.length ≤ 50 → found.length ≤ 50 → SmL e rest → e + f * (s + 2) ≤ 2 ^ 18 →
    V Γ (fS 25) (k + 3) (whT 25) (whB 25) ((fB 25).drop 3) (exCtx a b rest found ad) (.ret (if r' = [] then il (trim f') else .none))
  | 0, rest, found, e, r', f', hr, h1, h2, h3, h4, h5, h7 => by
    simp only [exGo, Option.some.injEq, Prod.mk.injEq] at hr
    obtain ⟨rfl, rfl⟩ := hr
    exact exEnd h3 h4 (by omega) lb (T.conv (T.cmp (E.bcall b_len (L.cons (E.name rfl) L.nil) (by walk_at "bi") rfl) (E.bcall b_len (L.cons (E.name rfl) L.nil) (by walk_at "bi") rfl) (by walk_at "op")) (by simp; omega))
  | f + 1, rest, found, e, r', f', hr, h1, h2, h3, h4, h5, h7 => by
    by_cases hl : rest.length ≥ b.length
    · rw [exGo, if_pos hl] at hr
      have hb0 : 0 < b.length := List.length_pos_iff.mpr hb
      have hr0 : rest ≠ [] := by intro e; subst e; exact hb (by simpa using hl)
      by_cases hd : (lead rest).fmod (lead b) = 0
      · rw [if_pos hd] at hr
        have e1 : e + (f + 1) * (s + 2) = (e + s + 2) + f * (s + 2) := by rw [Nat.add_mul]; omega
        have hq : lead rest * 1 = lead b * (lead rest).fdiv (lead b) := by
          have := Int.mul_fdiv_add_fmod (lead rest) (lead b); omega
        have tl := turn_len hb hl hq
        have hz1 : zscale rest 1 = rest := by simp [zscale]
        rw [hz1] at tl
        have sq : Sm (e + 1) ((lead rest).fdiv (lead b)) := h5.lead.fdiv
        have hp : ((rest.length : Int) - b.length) = ((rest.length - b.length : Nat) : Int) := by omega
        have l2 : (zraise (zscale b ((lead rest).fdiv (lead b))) (rest.length - b.length)).length ≤ 50 := Nat.le_trans (zraise_len _ _) (by have := zscale_len b ((lead rest).fdiv (lead b)); omega)
        have s2 : SmL (e + s + 2) (zsub rest (zraise (zscale b ((lead rest).fdiv (lead b))) (rest.length - b.length))) := (h5.mono (m := e + s + 1) (by omega)).zsub (((sb.zscale sq).mono (m := e + s + 1) (by omega)).zraise)
        refine V.turn (J := fun σ => σ.has (exCtx a b (zsub rest (zraise (zscale b ((lead rest).fdiv (lead b))) (rest.length - b.length))) (found.set (rest.length - b.length) ((lead rest).fdiv (lead b))) ad)) (T.conv (T.cmp (E.bcall b_len (L.cons (E.name rfl) L.nil) (by walk_at "bi") rfl) (E.bcall b_len (L.cons (E.name rfl) L.nil) (by walk_at "bi") rfl) (by walk_at "op")) (by simp; omega))
          (X.skip (T.conv (T.cmp (E.bin (E.sub (E.name rfl) (E.un E.int (by walk_at "op")) (G.last hr0 (by omega))) (E.sub (E.name rfl) (E.un E.int (by walk_at "op")) (G.last hb (by omega))) (B.mod h0)) E.int C.ne) (by simpa using hd))
          (X.swapR (ns := [S "number", S "power"]) rfl (M.d (E.bin (E.sub (E.name rfl) (E.un E.int (by walk_at "op")) (G.last hr0 (by omega))) (E.sub (E.name rfl) (E.un E.int (by walk_at "op")) (G.last hb (by omega))) (B.div h0 (sb.lead.log hs))) (M.d (E.conv (d' := .int ((rest.length - b.length : Nat) : Int)) (E.bin (E.bcall b_len (L.cons (E.name rfl) L.nil) (by walk_at "bi") rfl) (E.bcall b_len (L.cons (E.name rfl) L.nil) (by walk_at "bi") rfl) (by walk_at "op")) (by simp only [List.length_map]; rw [hp])) M.nil)) (by walk_at "sts") (by decide +kernel) fun _ _ =>
          X.setItem (E.name rfl) rfl (E.name rfl) rfl (by simp; omega) (by omega) (by simp; omega)
          (X.assign (E.call (L.cons (E.name rfl) (L.cons (E.call (L.cons (E.call (L.cons (E.name rfl) (L.cons (E.name rfl) L.nil)) (c_zscale (by omega) sb sq (by omega)) rfl) (L.cons (E.name rfl) L.nil)) (c_zraise (by have := zscale_len b ((lead rest).fdiv (lead b)); omega)) rfl) L.nil)) (c_zsub (by omega) (by omega)) rfl) (by walk_at "st") (X.done (has_take 4 ?_))))) fun σ2 hσ => ?_
        · rw [Int.toNat_natCast]
          show _ = exCtx a b _ _ ad
          unfold exCtx
          rw [show il' (found.set (rest.length - b.length) ((lead rest).fdiv (lead b))) = (il' found).set (rest.length - b.length) (.int ((lead rest).fdiv (lead b))) by unfold il'; rw [List.map_set]]
          rfl
        · exact V.has (w_zexact (k := k) (a := a) (ad := ad) lb hb h0 sb hs f _ _ (e + s + 2) r' f' hr (by omega) (by rw [List.length_set]; omega) (by omega) (by rw [List.length_set]; exact h4) s2 (by omega)) hσ
      · rw [if_neg hd] at hr; cases hr
    · rw [exGo, if_neg hl] at hr
      simp only [Option.some.injEq, Prod.mk.injEq] at hr
      obtain ⟨rfl, rfl⟩ := hr
      exact exEnd h3 h4 hl lb (T.conv (T.cmp (E.bcall b_len (L.cons (E.name rfl) L.nil) (by walk_at "bi") rfl) (E.bcall b_len (L.cons (E.name rfl) L.nil) (by walk_at "bi") rfl) (by walk_at "op")) (by simp; omega))
theorem c_zexact {k s : Nat} {a b q : List Int} (la : a.length ≤ 40) (lb : b.length ≤ 40) (hb : b ≠ []) (h0 : lead b ≠ 0) (sa : SmL s a) (sb : SmL s b) (hs : s ≤ 4000) (h : zexact a b = some q) : Cf Γ (k + 4) (S "zexact") [il a, il b] (il q) := by
  unfold zexact at h
  cases hg : exGo b (psMany a b) a (List.replicate (psMany a b) 0) with
  | none => rw [hg] at h; cases h
  | some p =>
    obtain ⟨r', f'⟩ := p
    rw [hg] at h
    simp only at h
    split at h
    · rename_i hr
      cases h
      have hm : psMany a b ≤ 41 := by unfold psMany; omega
      have hmul : psMany a b * (s + 2) ≤ 41 * 4002 := Nat.mul_le_mul hm (by omega)
      refine ⟨of_zexact (o := .ret _) (X.ok (X.expr (E.call (L.cons (E.name rfl) L.nil) (c_check_bottom (by omega) hb) rfl) (X.swapR (ns := [S "rest", S "found"]) rfl (M.d (E.tcall b_list (L.cons (E.name rfl) L.nil) (F.list (by simp; omega)) rfl) (M.o (O.rep (n := (psMany a b : Nat)) (E.lst (L.cons E.int L.nil) (by walk_at "side")) (E.conv (E.bcall b_max (L.cons E.int (L.cons (E.bin (E.bin (E.bcall b_len (L.cons (E.name rfl) L.nil) (by walk_at "bi") rfl) (E.bcall b_len (L.cons (E.name rfl) L.nil) (by walk_at "bi") rfl) (by walk_at "op")) E.int (by walk_at "op")) L.nil)) (by walk_at "bi") rfl) (by simp only [List.length_map]; rw [many_pre])) (by omega) (by omega)) M.nil)) (by walk_at "sts") (by decide +kernel) fun T hT => ?_)))⟩
      match T, hT with
      | [ad], _ =>
        have := w_zexact (Γ := Γ) (k := k) (a := a) (ad := ad) (by omega) hb h0 sb (by omega) (psMany a b) a (List.replicate (psMany a b) 0) s r' f' hg (by unfold psMany; omega) (by rw [List.length_replicate]; unfold psMany; omega) (by omega) (by rw [List.length_replicate]; omega) sa (by omega)
        rw [if_pos hr] at this
        refine X.has (X.whileV this) ?_
        unfold exCtx
        rw [show il' (List.replicate (psMany a b) 0) = List.replicate (psMany a b) (.int 0) by unfold il'; rw [List.map_replicate]]
        exact has_refl
    · cases h
end

section
open PySem PySem.W PyProof.Rows PySem.Calls
set_option maxRecDepth 100000
variable {Γ : Gl}


theorem c_zdegree {k : Nat} {l : List Int} (hl : l.length ≤ 1000) : Cf Γ (k + 1) (S "zdegree") [il l] (.int (l.length - 1)) :=
  ⟨of_zdegree (o := .ret _) (X.ok (X.ret (E.conv (d' := .int (l.length - 1)) (E.bin (E.bcall b_len (L.cons (E.name rfl) L.nil) (by walk_at "bi") rfl) E.int (by walk_at "op")) (by simp))))⟩
theorem c_zpseudo_rest {k s : Nat} {a b : List Int} (la : a.length ≤ 50) (lb : b.length ≤ 50) (hb : b ≠ []) (sa : SmL s a) (sb : SmL s b) (hs : s ≤ 20000) (hm : psMany a b ≤ 8) : Cf Γ (k + 5) (S "zpseudo_rest") [il a, il b] (il (psRest a b)) :=
  ⟨of_zpseudo_rest (o := .ret _) (X.ok (X.ret (E.sub (E.call (L.cons (E.name rfl) (L.cons (E.name rfl) L.nil)) (c_pseudo la lb hb sa sb hs hm) rfl) E.int (G.tup rfl rfl (by simp)))))⟩
theorem c_next_height {k : Nat} {front height : Int} {step : Nat} (h1 : Sm 9000 front) (h2 : Sm 9000 height) (hs : step ≤ 20) (h3 : step ≠ 0 → height ^ (step - 1) ≠ 0 ∧ Sm 9000 (height ^ (step - 1))) : Cf Γ (k + 1) (S "next_height") [.int front, .int step, .int height] (.int (nextHeight front step height)) := by
  by_cases h : step = 0
  · subst h
    exact ⟨of_next_height (o := .ret _) (X.ok (X.iteR (T.conv (T.cmp (E.name rfl) E.int (by walk_at "op")) (by simp)) (X.ret (E.name rfl))))⟩
  · obtain ⟨h4, h5⟩ := h3 h
    have hpow : ∀ a : Int, Sm 9000 a → ∀ m : Int, 0 ≤ m → m ≤ 20 → (Builtin.Int.intBits a : Int) * m ≤ 2 ^ 27 := fun a ha m h0 hm => by
      have hb := ha.bits
      have : ((Builtin.Int.intBits a : Nat) : Int) * m ≤ 9000 * 20 := Int.mul_le_mul (by omega) hm h0 (by omega)
      exact Int.le_trans this (by decide)
    have e : ((step : Int) - 1).toNat = step - 1 := by omega
    refine ⟨of_next_height (o := .ret _) (X.ok (X.skip (T.conv (T.cmp (E.name rfl) E.int (by walk_at "op")) (by simpa using h)) (X.ret (E.conv (E.bin (E.bin (E.name rfl) (E.name rfl) (B.pow (by omega) (hpow _ h1 _ (by omega) (by omega)))) (E.bin (E.name rfl) (E.bin (E.name rfl) E.int (by walk_at "op")) (B.pow (by omega) (hpow _ h2 _ (by omega) (by omega)))) (B.div (by rw [e]; exact h4) (by rw [e]; exact h5.log (by omega)))) ?_))))⟩
    rw [e, nextHeight, if_neg h]; rfl
noncomputable def SubOk : Nat → List Int → List Int → Int → Int → Prop
  | 0, _, _, _, _ => True
  | n + 1, a, b, front, height => b.length > 1 → SmL 8000 a ∧ SmL 8000 b ∧ Sm 8000 front ∧ Sm 8000 height ∧ (psRest a b ≠ [] →
      front * height ^ (a.length - b.length) ≠ 0 ∧ Sm 9000 (front * height ^ (a.length - b.length)) ∧ height ^ (a.length - b.length - 1) ≠ 0 ∧ Sm 9000 (height ^ (a.length - b.length - 1)) ∧
      SubOk n b (zdivided (psRest a b) (front * height ^ (a.length - b.length))) (lead b) (nextHeight (lead b) (a.length - b.length) height))
theorem psRest_len {a b : List Int} (hb : b ≠ []) : (psRest a b).length < b.length := by
  have h6 := psGo_len hb (psMany a b) a [] (psMany a b) (by unfold psMany; omega)
  have := zscale_len (psRun a b).2.1 (lead b ^ (psRun a b).2.2.toNat)
  unfold psRest
  have : (psRun a b).2.1.length < b.length := h6
  omega
noncomputable abbrev llD (rows : List (List Int)) : List D := rows.map il
noncomputable abbrev suCtx (a b : List Int) (row : List (List Int)) (front height : Int) (ad : Addr) : Ctx := [(S "a", .d (il a)), (S "b", .d (il b)), (S "row", .own ad (.list (llD row))), (S "front", .d (.int front)), (S "height", .d (.int height))]
theorem w_subres {k : Nat} {ad : Addr} : ∀ (n : Nat) (a b : List Int) (row : List (List Int)) (front height : Int), SubOk n a b front height → b.length ≤ n → a.length > b.length → a.length ≤ 8 → row.length + b.length ≤ 100 →
    V Γ (fS 30) (k + 5) (whT 30) (whB 30) ((fB 30).drop 3) (suCtx a b row front height ad) (.ret (.list (llD (subGo n a b row front height))))
  | 0, a, b, row, front, height, hok, h1, h2, h3, h4 => V.stop (T.conv (T.cmp (E.bcall b_len (L.cons (E.name rfl) L.nil) (by walk_at "bi") rfl) E.int (by walk_at "op")) (by simp; omega)) (X.ret (σ1 := []) ((E.nameOwn rfl).out has_nil))
  | n + 1, a, b, row, front, height, hok, h1, h2, h3, h4 => by
    by_cases hl : b.length > 1
    · obtain ⟨sa, sb, sf, sh, hr⟩ := hok hl
      have hb : b ≠ [] := by intro e; subst e; simp at hl
      have hst : ((a.length : Int) - b.length) = ((a.length - b.length : Nat) : Int) := by omega
      have rl := psRest_len (a := a) hb
      rw [subGo, if_pos hl]
      by_cases h0 : psRest a b = []
      · rw [if_pos h0]
        exact V.ret (T.conv (c' := true) (T.cmp (E.bcall b_len (L.cons (E.name rfl) L.nil) (by walk_at "bi") rfl) E.int (by walk_at "op")) (by simp; omega)) (X.assign (E.conv (d' := .int ((a.length - b.length : Nat) : Int)) (E.bin (E.bcall b_len (L.cons (E.name rfl) L.nil) (by walk_at "bi") rfl) (E.bcall b_len (L.cons (E.name rfl) L.nil) (by walk_at "bi") rfl) (by walk_at "op")) (by simp only [List.length_map]; rw [hst])) (by walk_at "st") (X.assign (E.call (L.cons (E.name rfl) (L.cons (E.name rfl) L.nil)) (c_zpseudo_rest (s := 8000) (by omega) (by omega) hb sa sb (by omega) (by unfold psMany; omega)) rfl) (by walk_at "st")
          (X.iteR (T.conv (c' := true) (T.cmp (E.bcall b_len (L.cons (E.name rfl) L.nil) (by walk_at "bi") rfl) E.int (by walk_at "op")) (by simp [h0])) (X.ret (σ1 := []) ((E.nameOwn rfl).out has_nil)))))
      · rw [if_neg h0]
        obtain ⟨d0, d1, p0, p1, hnext⟩ := hr h0
        have hlz : (zdivided (psRest a b) (front * height ^ (a.length - b.length))).length = (psRest a b).length := by simp [zdivided]
        refine V.turn (J := fun σ => σ.has (suCtx b (zdivided (psRest a b) (front * height ^ (a.length - b.length))) (row ++ [zdivided (psRest a b) (front * height ^ (a.length - b.length))]) (lead b) (nextHeight (lead b) (a.length - b.length) height) ad)) (T.conv (c' := true) (T.cmp (E.bcall b_len (L.cons (E.name rfl) L.nil) (by walk_at "bi") rfl) E.int (by walk_at "op")) (by simp; omega))
          (X.assign (E.conv (d' := .int ((a.length - b.length : Nat) : Int)) (E.bin (E.bcall b_len (L.cons (E.name rfl) L.nil) (by walk_at "bi") rfl) (E.bcall b_len (L.cons (E.name rfl) L.nil) (by walk_at "bi") rfl) (by walk_at "op")) (by simp only [List.length_map]; rw [hst])) (by walk_at "st") (X.assign (E.call (L.cons (E.name rfl) (L.cons (E.name rfl) L.nil)) (c_zpseudo_rest (s := 8000) (by omega) (by omega) hb sa sb (by omega) (by unfold psMany; omega)) rfl) (by walk_at "st")
          (X.skip (T.conv (c' := false) (T.cmp (E.bcall b_len (L.cons (E.name rfl) L.nil) (by walk_at "bi") rfl) E.int (by walk_at "op")) (by simpa using h0))
          (X.swapR (ns := [S "a", S "b"]) rfl (M.d (E.name rfl) (M.d (E.call (L.cons (E.name rfl) (L.cons (E.bin (E.name rfl) (E.bin (E.name rfl) (E.name rfl) (B.pow (by omega) (by
              have hb := sh.bits
              have : ((Builtin.Int.intBits height : Nat) : Int) * ((a.length - b.length : Nat) : Int) ≤ 8000 * 20 := Int.mul_le_mul (by omega) (by omega) (by omega) (by omega)
              exact Int.le_trans this (by decide)))) (B.mul (sf.ok (sh.pow (a.length - b.length)) (by
              have : 8000 * (a.length - b.length) ≤ 8000 * 8 := Nat.mul_le_mul_left _ (by omega)
              omega)))) L.nil)) (c_zdivided (by omega) d0 d1 (by omega)) rfl) M.nil)) (by walk_at "sts") (by decide +kernel) fun _ _ =>
          X.expr (E.append rfl (E.name rfl) rfl (by simp; omega)) (X.assign (E.call (L.cons (E.name rfl) L.nil) (c_zlead (by omega)) rfl) (by walk_at "st") (X.assign (E.call (L.cons (E.name rfl) (L.cons (E.name rfl) (L.cons (E.name rfl) L.nil))) (c_next_height (step := a.length - b.length) (sb.lead.mono (by omega)) (sh.mono (by omega)) (by omega) fun _ => ⟨p0, p1⟩) rfl) (by walk_at "st") (X.done (has_take 5 ?_)))))))) fun σ2 hσ => ?_
        · unfold suCtx
          rw [show llD (row ++ [zdivided (psRest a b) (front * height ^ (a.length - b.length))]) = llD row ++ [il (zdivided (psRest a b) (front * height ^ (a.length - b.length)))] by unfold llD; rw [List.map_append]; rfl]
          rfl
        · exact V.has (w_subres n _ _ _ _ _ hnext (by omega) (by omega) (by omega) (by rw [List.length_append, List.length_singleton]; omega)) hσ
    · rw [subGo, if_neg hl]
      exact V.stop (T.conv (T.cmp (E.bcall b_len (L.cons (E.name rfl) L.nil) (by walk_at "bi") rfl) E.int (by walk_at "op")) (by simp; omega)) (X.ret (σ1 := []) ((E.nameOwn rfl).out has_nil))
theorem c_subresultants {k : Nat} {a b : List Int} (hok : SubOk b.length a b 1 1) (h2 : a.length > b.length) (h3 : a.length ≤ 8) : Cf Γ (k + 6) (S "subresultants") [il a, il b] (.list (llD (subres a b))) := by
  refine ⟨of_subresultants (o := .ret _) (X.ok (X.skip (T.conv (c' := false) (T.cmp (E.bcall b_len (L.cons (E.name rfl) L.nil) (by walk_at "bi") rfl) (E.bcall b_len (L.cons (E.name rfl) L.nil) (by walk_at "bi") rfl) (by walk_at "op")) (by simp; omega)) (X.swapR (ns := [S "row", S "front", S "height"]) rfl (M.o (O.lst (L.cons (E.tcall b_list (L.cons (E.name rfl) L.nil) (F.list (by simp; omega)) rfl) (L.cons (E.tcall b_list (L.cons (E.name rfl) L.nil) (F.list (by simp; omega)) rfl) L.nil)) (by simp)) (M.d E.int (M.d E.int M.nil))) (by walk_at "sts") (by decide +kernel) fun T hT => ?_)))⟩
  match T, hT with
  | [ad], _ => exact X.whileV (w_subres (k := k) (ad := ad) b.length a b [a, b] 1 1 hok (Nat.le_refl _) h2 h3 (by simp; omega))
theorem subGo_ne : ∀ (n : Nat) (a b : List Int) (row : List (List Int)) (front height : Int), row ≠ [] → subGo n a b row front height ≠ []
  | 0, a, b, row, front, height, h => by simpa [subGo] using h
  | n + 1, a, b, row, front, height, h => by
    unfold subGo
    split
    · split
      · exact h
      · exact subGo_ne n _ _ _ _ _ (by simp)
    · exact h
theorem subGo_len : ∀ (n : Nat) (a b : List Int) (row : List (List Int)) (front height : Int), (subGo n a b row front height).length ≤ row.length + n
  | 0, a, b, row, front, height => by simp [subGo]
  | n + 1, a, b, row, front, height => by
    unfold subGo
    split
    · split
      · omega
      · have := subGo_len n b (zdivided (psRest a b) (front * height ^ (a.length - b.length))) (row ++ [zdivided (psRest a b) (front * height ^ (a.length - b.length))]) (lead b) (nextHeight (lead b) (a.length - b.length) height)
        rw [List.length_append, List.length_singleton] at this
        omega
    · omega
noncomputable def lastOf (a b : List Int) : List Int := (subres (zprim a) (zprim b)).getLast?.getD []
structure GcdOk (a b : List Int) : Prop where
  la : a.length ≤ 8
  lt : b.length < a.length
  ne : b ≠ []
  sa : SmL 8000 a
  sb : SmL 8000 b
  ga : gcdAll a ≠ 0
  gb : gcdAll b ≠ 0
  sub : SubOk (zprim b).length (zprim a) (zprim b) 1 1
  ll : (lastOf a b).length ≤ 8
  ls : SmL 8000 (lastOf a b)
  lg : (lastOf a b).length > 1 → gcdAll (lastOf a b) ≠ 0
theorem zprim_len (a : List Int) : (zprim a).length = a.length := by
  unfold zprim; split
  · rename_i h; rw [h]
  · simp [zdivided]
theorem c_zgcd {k : Nat} {a b : List Int} (h : GcdOk a b) : Cf Γ (k + 7) (S "zgcd") [il a, il b] (il (zgcd a b)) := by
  have la := h.la
  have lt := h.lt
  have ha : a ≠ [] := by intro e; subst e; simp at lt
  have hlast : ∃ j, idx (llD (subres (zprim a) (zprim b))).length (-1) = some j ∧ (llD (subres (zprim a) (zprim b)))[j]? = some (il (lastOf a b)) := by
    have hne : subres (zprim a) (zprim b) ≠ [] := subGo_ne _ _ _ _ _ _ (by simp)
    have hn : 0 < (subres (zprim a) (zprim b)).length := List.length_pos_iff.mpr hne
    refine ⟨(subres (zprim a) (zprim b)).length - 1, ?_, ?_⟩
    · rw [List.length_map]; exact idx_neg (m := 1) (by omega) (by omega)
    · rw [List.getElem?_map]
      unfold lastOf
      rw [List.getLast?_eq_getElem?]
      cases e : (subres (zprim a) (zprim b))[(subres (zprim a) (zprim b)).length - 1]? with
      | none => rw [List.getElem?_eq_none_iff] at e; omega
      | some x => rfl
  obtain ⟨j, hj1, hj2⟩ := hlast
  have hlen : (llD (subres (zprim a) (zprim b))).length ≤ 1000 := by
    have := subGo_len (zprim b).length (zprim a) (zprim b) [zprim a, zprim b] 1 1
    rw [List.length_map]
    unfold subres
    simp only [List.length_cons, List.length_nil, zprim_len] at this ⊢
    omega
  refine ⟨of_zgcd (o := .ret _) (X.ok (X.skip (T.conv (c' := false) (T.or (T.cmp (E.bcall b_len (L.cons (E.name rfl) L.nil) (by walk_at "bi") rfl) E.int (by walk_at "op")) fun hc => (T.cmp (E.bcall b_len (L.cons (E.name rfl) L.nil) (by walk_at "bi") rfl) E.int (by walk_at "op"))) (by simp [ha, h.ne])) (X.assign (E.call (L.cons (E.call (L.cons (E.name rfl) L.nil) c_zcontent rfl) (L.cons (E.call (L.cons (E.name rfl) L.nil) c_zcontent rfl) L.nil)) c_gcd rfl) (by walk_at "st")
    (X.assign (E.sub (E.call (L.cons (E.call (L.cons (E.name rfl) L.nil) (c_zprimitive (by omega) (.inl h.ga) h.sa (by omega)) rfl) (L.cons (E.call (L.cons (E.name rfl) L.nil) (c_zprimitive (by omega) (.inl h.gb) h.sb (by omega)) rfl) L.nil)) (c_subresultants h.sub (by rw [zprim_len, zprim_len]; exact lt) (by rw [zprim_len]; exact la)) rfl) (E.un E.int (by walk_at "op")) (G.list hj1 hj2 hlen)) (by walk_at "st") (X.ret (σ1 := []) ?_)))))⟩
  have hz : zgcd a b = if (lastOf a b).length > 1 then zscale (zprim (lastOf a b)) (gcdI (gcdAll a) (gcdAll b)) else [gcdI (gcdAll a) (gcdAll b)] := rfl
  rw [hz]
  have hll := h.ll
  have hgs := gcdI_sm (gcdAll_sm h.sa) (gcdAll_sm h.sb)
  refine E.ite (T.cmp (E.bcall b_len (L.cons (E.name rfl) L.nil) (by walk_at "bi") rfl) E.int (by walk_at "op")) (fun hc => ?_) fun hc => ?_
  · have hc : (lastOf a b).length > 1 := by simp at hc; omega
    rw [if_pos hc]
    have hs : SmL 8001 (zprim (lastOf a b)) := by
      unfold zprim; split
      · exact SmL.nil
      · intro c hc; obtain ⟨x, hx, rfl⟩ := List.mem_map.mp hc; exact (h.ls x hx).fdiv
    exact (E.call (L.cons (E.call (L.cons (E.name rfl) L.nil) (c_zprimitive (by omega) (.inl (h.lg hc)) h.ls (by omega)) rfl) (L.cons (E.name rfl) L.nil)) (c_zscale (by rw [zprim_len]; omega) hs hgs (by omega)) rfl).out has_nil
  · have hc : ¬ (lastOf a b).length > 1 := by simp at hc; omega
    rw [if_neg hc]
    exact ((E.lst (L.cons (E.name rfl) L.nil) (by walk_at "side"))).out has_nil
noncomputable def simpleS (f : List Int) : List Int := if (zgcd f (zder f)).length > 1 then (zexact f (zgcd f (zder f))).getD [] else f
structure SimpleOk (f : List Int) : Prop where
  gcd : GcdOk f (zder f)
  len : (zgcd f (zder f)).length ≤ 8
  sm : SmL 4000 (zgcd f (zder f))
  smf : SmL 4000 f
  lead : (zgcd f (zder f)).length > 1 → lead (zgcd f (zder f)) ≠ 0
  exact : (zgcd f (zder f)).length > 1 → (zexact f (zgcd f (zder f))).isSome = true
theorem c_simple_part {k : Nat} {f : List Int} (h : SimpleOk f) : Cf Γ (k + 8) (S "simple_part") [il f] (il (simpleS f)) := by
  have la := h.gcd.la
  have hl := h.len
  refine ⟨of_simple_part (o := .ret _) (X.ok (X.assign (E.call (L.cons (E.name rfl) (L.cons (E.call (L.cons (E.name rfl) L.nil) (c_zderive (by omega) (h.smf.mono (by omega)) (Nat.le_refl 9000)) rfl) L.nil)) (c_zgcd h.gcd) rfl) (by walk_at "st") (X.ret (σ1 := [(S "f", .d (il f)), (S "common", .d (il (zgcd f (zder f))))]) (E.ite (T.cmp (E.call (L.cons (E.name rfl) L.nil) (c_zdegree (by omega)) rfl) E.int C.gt) (fun hc => ?_) fun hc => ?_))))⟩
  · have hc : (zgcd f (zder f)).length > 1 := by simp at hc; omega
    obtain ⟨q, hq⟩ := Option.isSome_iff_exists.mp (h.exact hc)
    have e : simpleS f = q := by unfold simpleS; rw [if_pos hc, hq]; rfl
    rw [e]
    exact E.call (L.cons (E.name rfl) (L.cons (E.name rfl) L.nil)) (c_zexact (by omega) (by omega) (by intro e; rw [e] at hc; simp at hc) (h.lead hc) h.smf h.sm (by omega) hq) rfl
  · have hc : ¬ (zgcd f (zder f)).length > 1 := by simp at hc; omega
    have e : simpleS f = f := by unfold simpleS; rw [if_neg hc]
    rw [e]
    exact (E.name rfl)
end

section
open PySem PySem.W PyProof.Rows PySem.Calls
set_option maxRecDepth 100000
variable {Γ : Gl}


inductive Pt where
  | neg | pos | fin (q : Int × Int)
noncomputable def Pt.d : Pt → D
  | .neg => .str (S "-")
  | .pos => .str (S "+")
  | .fin q => dq q
noncomputable def sgnAt (x : Pt) (p : List Int) : Int := match x with
  | .neg => endSign p true
  | .pos => endSign p false
  | .fin q => valSign p q
noncomputable def Okp (n : Nat) : Pt → Prop
  | .fin q => Okq n q
  | _ => True
noncomputable def countRow (row : List (List Int)) (lo hi : Pt) : Int := changes (sgnAt lo) row - changes (sgnAt hi) row

theorem c_sign_of {k : Nat} {n : Int} : Cf Γ (k + 1) (S "sign_of") [.int n] (.int (sgn n)) := ⟨of_sign_of (o := .ret _) (X.ok (X.ret (E.bin (E.cmp (E.name rfl) E.int (by walk_at "op")) (E.cmp (E.name rfl) E.int (by walk_at "op")) (by walk_at "op"))))⟩
theorem valGo_take (t b : Int) (l : List Int) (i : Nat) (c : Int) (h : l[i]? = some c) (fs : Int × Int) : valGo t b (l.take (i + 1)) fs = ((valGo t b (l.take i) fs).1 * t + c * (valGo t b (l.take i) fs).2, (valGo t b (l.take i) fs).2 * b) := by
  induction l generalizing i fs with
  | nil => simp at h
  | cons d l ih =>
    obtain ⟨f, s⟩ := fs
    cases i with
    | zero => simp at h; subst h; simp [valGo]
    | succ i => simp at h; rw [List.take_succ_cons, List.take_succ_cons]; exact ih i h _
theorem valGo_sm {n m : Nat} {t b : Int} {l : List Int} (ht : Sm n t) (hb : Sm n b) (hn : 1 ≤ n) (hl : SmL m l) : ∀ i, i ≤ l.length → Sm (m + i * (n + 1) + 1) (valGo t b (l.take i) (0, 1)).1 ∧ Sm (i * n + 1) (valGo t b (l.take i) (0, 1)).2
  | 0, _ => ⟨Sm.zero, by simpa [valGo] using Sm.one⟩
  | i + 1, hi => by
    obtain ⟨h1, h2⟩ := valGo_sm ht hb hn hl i (by omega)
    have hc : l[i]? = some l[i] := List.getElem?_eq_getElem (by omega)
    rw [valGo_take t b l i _ hc]
    have hli : Sm m l[i] := hl _ (List.getElem_mem _)
    refine ⟨?_, by have := h2.mul hb; rw [Nat.add_mul]; exact this.mono (by omega)⟩
    have e : (i + 1) * (n + 1) = i * n + i + n + 1 := by rw [Nat.add_mul, Nat.mul_add]; omega
    have e2 : i * (n + 1) = i * n + i := by rw [Nat.mul_add]; omega
    have a1 := (h1.mul ht).mono (m := m + i * n + i + n + 1) (by omega)
    have a2 := (hli.mul h2).mono (m := m + i * n + i + n + 1) (by omega)
    exact (a1.add a2).mono (by omega)
theorem c_value_sign {k n m : Nat} {p : List Int} {q : Int × Int} (hp : p.length ≤ 50) (hm : SmL m p) (hq : Okq n q) (h1 : 1 ≤ n) (hn : n ≤ 4000) (hmm : m ≤ 20000) : Cf Γ (k + 2) (S "value_sign") [il p, dq q] (.int (valSign p q)) := by
  have hrev : SmL m p.reverse := fun c hc => hm c (List.mem_reverse.mp hc)
  refine ⟨of_value_sign (o := .ret _) (X.ok (X.unpack (E.name rfl) (A.tup (AL.cons (A.name (by walk_at "st")) (AL.cons (A.name (by walk_at "st")) AL.nil))) (X.unpack (E.tup (L.cons E.int (L.cons E.int L.nil)) (by walk_at "side")) (A.tup (AL.cons (A.name (by walk_at "st")) (AL.cons (A.name (by walk_at "st")) AL.nil))) ?_)))⟩
  refine X.forH (fun i => [(S "p", .d (il p)), (S "x", .d (dq q)), (S "top", .d (.int q.1)), (S "bottom", .d (.int q.2)), (S "found", .d (.int (valGo q.1 q.2 (p.reverse.take i) (0, 1)).1)), (S "scale", .d (.int (valGo q.1 q.2 (p.reverse.take i) (0, 1)).2))]) (I.rev (E.name rfl) rfl) has_refl (fun i d hd => ?_) ?_
  · rw [← List.map_reverse] at hd
    obtain ⟨c, hc, rfl⟩ := map_get hd
    have hi : i < p.reverse.length := (List.getElem?_eq_some_iff.mp hc).1
    obtain ⟨a1, a2⟩ := valGo_sm hq.top hq.bot h1 hrev i (by omega)
    have hcs : Sm m c := hrev c (List.mem_of_getElem? hc)
    have hi' : i ≤ 50 := by rw [List.length_reverse] at hi; omega
    have e2 : i * (n + 1) ≤ 50 * 4001 := Nat.mul_le_mul hi' (by omega)
    have e3 : i * n ≤ 50 * 4000 := Nat.mul_le_mul hi' (by omega)
    refine ⟨_, A.name (by walk_at "st"), X.assign (E.bin (E.bin (E.name rfl) (E.name rfl) (B.mul (a1.ok hq.top (by omega)))) (E.bin (E.name rfl) (E.name rfl) (B.mul (hcs.ok a2 (by omega)))) B.add) (by walk_at "st") (X.assign (E.bin (E.name rfl) (E.name rfl) (B.mul (a2.ok hq.bot (by omega)))) (by walk_at "st") (X.done (has_take 6 ?_)))⟩
    rw [valGo_take q.1 q.2 p.reverse i c hc]
    rfl
  · have e : (il' p).reverse.length = p.reverse.length := by simp
    rw [e, List.take_length]
    exact X.ret (E.call (L.cons (E.name rfl) L.nil) c_sign_of rfl)
theorem pyL_il (l : List Int) : PyData.canLayAll0 (D.pyL (il' l)) = true ∧ PyData.depthAll (D.pyL (il' l)) = 0 := by
  induction l with
  | nil => exact ⟨rfl, rfl⟩
  | cons c l ih => exact ⟨by simp [D.pyL, D.py, PyData.canLayAll0, PyData.canLay0, ih.1], by simp [D.pyL, D.py, PyData.depthAll, PyData.depth, ih.2]⟩
theorem shaped_il (l : List Int) : SeqAt.shaped (il l).py = true := by
  obtain ⟨h1, h2⟩ := pyL_il l
  unfold SeqAt.shaped
  simp only [D.py, PyData.canLay0, PyData.depth, h1, h2]
  rfl
theorem eqv_nil (l : List Int) : PyData.eqv (il l).py (il []).py = l.isEmpty := by
  cases l <;> simp [D.py, D.pyL, PyData.eqv, PyData.eqvAll]
theorem c_end_sign {k : Nat} {p : List Int} {minus : Bool} (hp : p.length ≤ 50) : Cf Γ (k + 2) (S "end_sign") [il p, .str (if minus = true then S "-" else S "+")] (.int (endSign p minus)) := by
  by_cases h : p = []
  · subst h
    exact ⟨of_end_sign (o := .ret _) (X.ok (X.iteR (T.conv (c' := true) (T.cmp (E.name rfl) (E.lst (ds := il' []) L.nil (by simp)) (C.eqd (shaped_il []) (shaped_il []))) (by rw [eqv_nil]; rfl)) (X.ret E.int)))⟩
  · refine ⟨of_end_sign (o := .ret _) (X.ok (X.skip (T.conv (c' := false) (T.cmp (E.name rfl) (E.lst (ds := il' []) L.nil (by simp)) (C.eqd (shaped_il p) (shaped_il []))) (by rw [eqv_nil]; simpa using h)) (X.assign (E.call (L.cons (E.call (L.cons (E.name rfl) L.nil) (c_zlead (by omega)) rfl) L.nil) c_sign_of rfl) (by walk_at "st") (X.ret (E.conv (d' := .int (endSign p minus)) (E.condI (T.and (T.cmp (E.name rfl) E.str (by walk_at "op")) fun hc => (T.cmp (E.bin (E.call (L.cons (E.name rfl) L.nil) (c_zdegree (by omega)) rfl) E.int (B.mod (by decide))) E.int C.eq)) (fun hc => (E.un (E.name rfl) (by walk_at "op"))) fun hc => (E.name rfl)) ?_)))))⟩
    have hms : ((if minus = true then S "-" else S "+") == S "-") = minus := by cases minus <;> decide +kernel
    unfold endSign
    rw [if_neg h]
    congr 1
    show (if (((if minus = true then S "-" else S "+") == S "-") && (((p.length : Int) - 1).fmod 2 == 1)) = true then -sgn (lead p) else sgn (lead p)) = _
    rw [hms, show ((((p.length : Int) - 1).fmod 2 == 1) : Bool) = decide (((p.length : Int) - 1).fmod 2 = 1) from rfl]
theorem c_sign_at {k n m : Nat} {p : List Int} {x : Pt} (hp : p.length ≤ 50) (hm : SmL m p) (hq : Okp n x) (h1 : 1 ≤ n) (hn : n ≤ 4000) (hmm : m ≤ 20000) : Cf Γ (k + 3) (S "sign_at") [il p, x.d] (.int (sgnAt x p)) := by
  refine ⟨of_sign_at (o := .ret _) (X.ok (X.ret (σ1 := [(S "p", .d (il p)), (S "x", .d x.d)]) ?_))⟩
  cases x with
  | neg => exact E.ite (c := true) (T.value ⟨EvE.isStr (c := true) (E.ok (E.name rfl)) (.inl ⟨_, rfl, rfl⟩) rfl rfl⟩ R.bool) (fun _ => E.call (L.cons (E.name rfl) (L.cons (E.name rfl) L.nil)) (c_end_sign (minus := true) hp) rfl) fun h => by cases h
  | pos => exact E.ite (c := true) (T.value ⟨EvE.isStr (c := true) (E.ok (E.name rfl)) (.inl ⟨_, rfl, rfl⟩) rfl rfl⟩ R.bool) (fun _ => E.call (L.cons (E.name rfl) (L.cons (E.name rfl) L.nil)) (c_end_sign (minus := false) hp) rfl) fun h => by cases h
  | fin q => exact E.ite (c := false) (T.value ⟨EvE.isStr (c := false) (E.ok (E.name rfl)) (.inr ⟨_, rfl, rfl⟩) rfl rfl⟩ R.bool) (fun h => by cases h) fun _ => E.call (L.cons (E.name rfl) (L.cons (E.name rfl) L.nil)) (c_value_sign hp hm hq h1 hn hmm) rfl
theorem c_lessened {k n : Nat} {p : List Int} (hp : p.length ≤ 50) (hm : SmL n p) (hn : n ≤ 9000) : Cf Γ (k + 4) (S "lessened") [il p] (il (less1 p)) := by
  refine ⟨of_lessened (o := .ret _) (X.ok (X.assign (E.call (L.cons (E.name rfl) L.nil) c_zcontent rfl) (by walk_at "st") (X.ret (σ1 := [(S "p", .d (il p)), (S "content", .d (.int (gcdAll p)))]) (E.ite (T.cmp (E.name rfl) E.int (by walk_at "op")) (fun hc => ?_) fun hc => ?_))))⟩
  · have hc : gcdAll p > 1 := by simpa using hc
    refine E.conv (E.compMap (σc := [(S "content", .d (.int (gcdAll p)))]) p .int (fun x => .int (x.fdiv (gcdAll p))) (I.list (E.name rfl)) (by decide +kernel) (by walk_at "inner") (by omega) (fun x hx => ⟨_, A.name (by walk_at "st"), El.some (E.bin (E.name rfl) (E.name rfl) (B.div (by omega) ((gcdAll_sm hm).log hn))) (has_take 1 rfl)⟩)) ?_
    unfold less1; rw [if_pos hc]; simp [Function.comp_def]
  · have hc : ¬ gcdAll p > 1 := by simpa using hc
    unfold less1; rw [if_neg hc]; exact (E.name rfl)
theorem c_next_of_row {k : Nat} {a b : List Int} (la : a.length ≤ 50) (lb : b.length ≤ 50) (hb : b ≠ []) (sa : SmL 8000 a) (sb : SmL 8000 b) (hm : psMany a b ≤ 8) (hr : SmL 8900 (psRest a b)) : Cf Γ (k + 5) (S "next_of_row") [il a, il b] (il (nextRow a b)) := by
  have rl := psRest_len (a := a) hb
  have hneg : SmL 8900 (zneg (psRest a b)) := fun c hc => by obtain ⟨x, hx, rfl⟩ := List.mem_map.mp hc; exact (hr x hx).neg
  have hd : ∀ (c : Bool), c = (((psMany a b : Nat) : Int).fmod 2 == 1 && decide (lead b < 0)) → Cf Γ (k + 5) (S "next_of_row") [il a, il b] (il (nextRow a b)) := by
    intro c hc
    cases c with
    | true =>
      have e : nextRow a b = less1 (psRest a b) := by unfold nextRow; rw [if_pos (by simpa using hc.symm)]
      rw [e]
      exact ⟨of_next_of_row (o := .ret _) (X.ok (X.unpack (E.call (L.cons (E.name rfl) (L.cons (E.name rfl) L.nil)) (c_pseudo (s := 8000) la lb hb sa sb (by omega) hm) rfl) (A.tup (AL.cons (A.name (by walk_at "st")) (AL.cons (A.name (by walk_at "st")) (AL.cons (A.name (by walk_at "st")) AL.nil))))
        (X.iteR (T.conv (c' := true) (T.and (T.cmp (E.bin (E.name rfl) E.int (by walk_at "op")) E.int (by walk_at "op")) fun hc => (T.cmp (E.call (L.cons (E.name rfl) L.nil) (c_zlead (by omega)) rfl) E.int C.lt)) hc.symm) (X.ret (E.call (L.cons (E.name rfl) L.nil) (c_lessened (by omega) hr (by omega)) rfl)))))⟩
    | false =>
      have e : nextRow a b = less1 (zneg (psRest a b)) := by unfold nextRow; rw [if_neg (by simpa using hc.symm)]
      rw [e]
      exact ⟨of_next_of_row (o := .ret _) (X.ok (X.unpack (E.call (L.cons (E.name rfl) (L.cons (E.name rfl) L.nil)) (c_pseudo (s := 8000) la lb hb sa sb (by omega) hm) rfl) (A.tup (AL.cons (A.name (by walk_at "st")) (AL.cons (A.name (by walk_at "st")) (AL.cons (A.name (by walk_at "st")) AL.nil))))
        (X.skip (T.conv (c' := false) (T.and (T.cmp (E.bin (E.name rfl) E.int (by walk_at "op")) E.int (by walk_at "op")) fun hc => (T.cmp (E.call (L.cons (E.name rfl) L.nil) (c_zlead (by omega)) rfl) E.int C.lt)) hc.symm) (X.ret (E.call (L.cons (E.call (L.cons (E.name rfl) L.nil) (c_zneg (by omega)) rfl) L.nil) (c_lessened (by rw [zneg_len]; omega) hneg (by omega)) rfl)))))⟩
  exact hd _ rfl
end

section
open PySem PySem.W PyProof.Rows PySem.Calls
set_option maxRecDepth 100000
variable {Γ : Gl}


noncomputable def StOk : Nat → List Int → List Int → Prop
  | 0, _, b => b = []
  | n + 1, a, b => b ≠ [] → a.length ≤ 8 ∧ b.length < a.length ∧ psMany a b ≤ 8 ∧ SmL 8000 a ∧ SmL 8000 b ∧ SmL 8900 (psRest a b) ∧ StOk n b (nextRow a b)
theorem less1_len (p : List Int) : (less1 p).length = p.length := by unfold less1; split <;> simp
theorem nextRow_len {a b : List Int} (hb : b ≠ []) : (nextRow a b).length < b.length := by
  have := psRest_len (a := a) hb
  unfold nextRow; split <;> rw [less1_len]
  · exact this
  · rw [zneg_len]; exact this
theorem pick_app (pre : List (List Int)) (a b : List Int) : idx (llD (pre ++ [a, b])).length (-2) = some pre.length ∧ (llD (pre ++ [a, b]))[pre.length]? = some (il a) ∧ idx (llD (pre ++ [a, b])).length (-1) = some (pre.length + 1) ∧ (llD (pre ++ [a, b]))[pre.length + 1]? = some (il b) := by
  have hl : (llD (pre ++ [a, b])).length = pre.length + 2 := by simp
  rw [hl]
  refine ⟨idx_neg (m := 2) (by omega) (by omega), by simp [llD], idx_neg (m := 1) (by omega) (by omega), by simp [llD]⟩
noncomputable abbrev srCtx (f : List Int) (row : List (List Int)) (later : List Int) (ad : Addr) : Ctx := [(S "f", .d (il f)), (S "found", .own ad (.list (llD row))), (S "later", .d (il later))]
theorem nez (l : List Int) : (!PyData.eqv (il l).py (il []).py) = !l.isEmpty := by rw [eqv_nil]
theorem w_sturm {k : Nat} {f : List Int} {ad : Addr} : ∀ (n : Nat) (pre : List (List Int)) (a b : List Int), StOk n a b → (b ≠ [] → b.length < n + 1) → pre.length + n ≤ 100 →
    W Γ (fS 40) (k + 5) (whT 40) (whB 40) [] (srCtx f (pre ++ [a]) b ad) (.next fun σ => σ.has (srCtx f (pre ++ a :: stTail n a b) [] ad))
  | 0, pre, a, b, hok, h1, h2 => by
    have hok : b = [] := hok
    subst hok
    exact W.stop (T.conv (c' := false) (T.cmp (E.name rfl) (E.lst (ds := il' []) L.nil (by simp)) (C.ned (shaped_il _) (shaped_il []))) (by rw [nez]; rfl)) has_refl
  | n + 1, pre, a, b, hok, h1, h2 => by
    by_cases hb : b = []
    · subst hb
      refine W.stop (T.conv (c' := false) (T.cmp (E.name rfl) (E.lst (ds := il' []) L.nil (by simp)) (C.ned (shaped_il _) (shaped_il []))) (by rw [nez]; rfl)) ?_
      rw [show stTail (n + 1) a [] = [] by simp [stTail]]; exact has_refl
    · obtain ⟨la, lb, hmm, sa, sb, sr, hok'⟩ := hok hb
      obtain ⟨p1, p2, p3, p4⟩ := pick_app pre a b
      refine W.turn (J := fun σ => σ.has (srCtx f ((pre ++ [a]) ++ [b]) (nextRow a b) ad)) (T.conv (c' := true) (T.cmp (E.name rfl) (E.lst (ds := il' []) L.nil (by simp)) (C.ned (shaped_il _) (shaped_il []))) (by rw [nez]; simpa using hb))
        (X.expr (E.append rfl (E.name rfl) rfl (by simp; omega)) (X.assign (E.call (L.cons (E.subOwn (a := ad) (xs := llD (pre ++ [a, b])) ?_ (E.un E.int (by walk_at "op")) ?_ p1 p2 (by simp; omega)) (L.cons (E.subOwn (a := ad) (xs := llD (pre ++ [a, b])) ?_ (E.un E.int (by walk_at "op")) ?_ p3 p4 (by simp; omega)) L.nil)) (c_next_of_row (by omega) (by omega) hb sa sb hmm sr) rfl) (by walk_at "st") (X.done (has_take 3 ?_)))) fun σ2 hσ => ?_
      · rw [show llD (pre ++ [a, b]) = llD (pre ++ [a]) ++ [il b] by simp [llD]]; rfl
      · rw [show llD (pre ++ [a, b]) = llD (pre ++ [a]) ++ [il b] by simp [llD]]; rfl
      · rw [show llD (pre ++ [a, b]) = llD (pre ++ [a]) ++ [il b] by simp [llD]]; rfl
      · rw [show llD (pre ++ [a, b]) = llD (pre ++ [a]) ++ [il b] by simp [llD]]; rfl
      · unfold srCtx; rw [show llD (pre ++ [a] ++ [b]) = llD (pre ++ [a]) ++ [il b] by simp [llD]]; rfl
      · have := w_sturm (k := k) (f := f) (ad := ad) n (pre ++ [a]) b (nextRow a b) hok' (fun _ => by have := nextRow_len (a := a) hb; have := h1 hb; omega) (by rw [List.length_append, List.length_singleton]; omega)
        rw [show stTail (n + 1) a b = b :: stTail n b (nextRow a b) by rw [stTail, if_neg hb]]
        rw [show pre ++ a :: b :: stTail n b (nextRow a b) = pre ++ [a] ++ b :: stTail n b (nextRow a b) by simp]
        exact W.has this hσ
theorem dgo_len : ∀ (q : List Int) (i : Nat), (dgo i q).length = q.length
  | [], _ => rfl
  | c :: q, i => by simp [dgo, dgo_len q (i + 1)]
theorem zder_len (f : List Int) : (zder f).length = f.length - 1 := by unfold zder; rw [List.length_drop, dgo_len]
theorem c_sturm_row {k : Nat} {f : List Int} (hf : f.length ≤ 50) (hm : SmL 8000 f) (hok : StOk f.length f (zder f)) : Cf Γ (k + 6) (S "sturm_row") [il f] (.list (llD (sturm f))) := by
  refine ⟨of_sturm_row (o := .ret _) (X.ok (X.swapR (ns := [S "found", S "later"]) rfl (M.o (O.lst (ds := [il f]) (L.cons (E.name rfl) L.nil) (by simp)) (M.d (E.call (L.cons (E.name rfl) L.nil) (c_zderive (by omega) hm (by omega)) rfl) M.nil)) (by walk_at "sts") (by decide +kernel) fun T hT => ?_))⟩
  match T, hT with
  | [ad], _ =>
    have := w_sturm (Γ := Γ) (k := k) (f := f) (ad := ad) f.length [] f (zder f) hok (fun _ => by rw [zder_len]; omega) (by simp; omega)
    exact X.while (W.has this has_refl) fun σ2 hσ => X.has (X.ret (σ1 := []) ((E.nameOwn rfl).out has_nil)) hσ
theorem chg_range (l : List Int) : ((List.range (l.length - 1)).filter fun i => decide (l.getD (i + 1) 0 ≠ l.getD i 0)).length = chg l := by
  induction l with
  | nil => rfl
  | cons a l ih =>
    cases l with
    | nil => rfl
    | cons b l =>
      have e : (a :: b :: l).length - 1 = (b :: l).length - 1 + 1 := by simp
      rw [e, List.range_succ_eq_map, List.filter_cons]
      have h2 : (List.filter (fun i => decide ((a :: b :: l).getD (i + 1) 0 ≠ (a :: b :: l).getD i 0)) (List.map Nat.succ (List.range ((b :: l).length - 1)))).length = chg (b :: l) := by
        rw [List.filter_map, List.length_map, ← ih]; rfl
      have e3 : chg (a :: b :: l) = (if b ≠ a then 1 else 0) + chg (b :: l) := rfl
      rw [e3, ← h2]
      by_cases hab : b = a
      · simp [hab]
      · simp [hab]; omega
theorem c_changes_at {k n m : Nat} {row : List (List Int)} {x : Pt} (hr : row.length ≤ 50) (hp : ∀ p ∈ row, p.length ≤ 50 ∧ SmL m p) (hq : Okp n x) (h1 : 1 ≤ n) (hn : n ≤ 4000) (hmm : m ≤ 20000) : Cf Γ (k + 4) (S "changes_at") [.list (llD row), x.d] (.int (changes (sgnAt x) row)) := by
  have l1 : ((row.map (sgnAt x)).filter (· ≠ 0)).length ≤ 50 := Nat.le_trans (List.length_filter_le _ _) (by simpa using hr)
  have e1 : changes (sgnAt x) row = (chg ((row.map (sgnAt x)).filter (· ≠ 0)) : Nat) := rfl
  rw [e1]
  refine ⟨of_changes_at (o := .ret _) (X.ok (X.assignC (E.compMap (σc := [(S "x", .d x.d)]) row il (fun p => .int (sgnAt x p)) (I.list (E.name rfl)) (by decide +kernel) (by walk_at "inner") (by omega) (fun p hp' => ⟨_, A.name (by walk_at "st"), El.some (E.call (L.cons (E.name rfl) (L.cons (E.name rfl) L.nil)) (c_sign_at (hp p hp').1 (hp p hp').2 hq h1 hn hmm) rfl) (has_take 1 rfl)⟩)) (by walk_at "st")
    (X.assignC (E.compFilter (σc := []) (row.map (sgnAt x)) .int .int (· ≠ 0) (I.conv (I.list (E.name rfl)) (by simp [Function.comp_def])) (by decide +kernel) ?_ (by simp; omega) (fun s hs => ⟨_, A.name (by walk_at "st"), ?_⟩)) (by walk_at "st") ?_)))⟩
  · refine Inner.of (fun p hp => nomatch hp) fun x hx hf => ?_
    simp only [List.mem_cons, List.not_mem_nil, or_false] at hx
    repeat' (first | (subst hx; cases hf; done) | rcases hx with hx | hx)
  · refine El.conv (El.test (c := (s != 0)) (T.cmp (E.name rfl) E.int C.ne) (fun _ => (E.name rfl)) has_nil) ?_
    by_cases h : s = 0 <;> simp [h]
  · generalize (row.map (sgnAt x)).filter (· ≠ 0) = l at l1 ⊢
    refine X.ret (σ1 := []) (E.out (E.conv (d' := .int (chg l : Nat)) (E.bcall b_len (L.cons (E.compFilter (σc := [(S "signs", .d (il l))]) (List.range (l.length - 1)) (fun i : Nat => .int (1 + (i : Int))) (fun _ => .int 1) (fun i => decide (l.getD (i + 1) 0 ≠ l.getD i 0)) (I.conv (I.range2 (L.cons E.int (L.cons (E.bcall b_len (L.cons (E.name rfl) L.nil) (by walk_at "bi") rfl) L.nil)) (by omega) (by simp; omega) rfl) ?_) (by decide +kernel) (by walk_at "inner") (by simp; omega) (fun i hi => ⟨_, A.name (by walk_at "st"), ?_⟩)) L.nil) (F.len ?_) rfl) ?_) has_nil)
    · unfold rangeD
      rw [List.length_map, show ((l.length : Int) - 1).toNat = l.length - 1 by omega]
    · have hi : i < l.length - 1 := by simpa using hi
      have g1 := G.atI (Γ := Γ) (k := k + 3) (l := l) (i := 1 + (i : Int)) (by omega) (by omega) (by omega)
      have g2 := G.atI (Γ := Γ) (k := k + 3) (l := l) (i := 1 + (i : Int) - 1) (by omega) (by omega) (by omega)
      rw [show (1 + (i : Int)).toNat = i + 1 by omega] at g1
      rw [show (1 + (i : Int) - 1).toNat = i by omega] at g2
      refine El.conv (El.test (c := (l.getD (i + 1) 0 != l.getD i 0)) (T.cmp (E.sub (E.name rfl) (E.name rfl) g1) (E.sub (E.name rfl) (E.bin (E.name rfl) E.int (by walk_at "op")) g2) C.ne) (fun _ => E.int) (has_take 1 rfl)) ?_
      by_cases h : l.getD (i + 1) 0 = l.getD i 0 <;> simp [h]
    · rw [List.length_map]; exact Nat.le_trans (List.length_filter_le _ _) (by simp; omega)
    · rw [List.length_map, chg_range]
theorem c_count_by_row {k n m : Nat} {row : List (List Int)} {x y : Pt} (hr : row.length ≤ 50) (hp : ∀ p ∈ row, p.length ≤ 50 ∧ SmL m p) (hx : Okp n x) (hy : Okp n y) (h1 : 1 ≤ n) (hn : n ≤ 4000) (hmm : m ≤ 20000) : Cf Γ (k + 5) (S "count_by_row") [.list (llD row), x.d, y.d] (.int (countRow row x y)) :=
  ⟨of_count_by_row (o := .ret _) (X.ok (X.ret (E.bin (E.call (L.cons (E.name rfl) (L.cons (E.name rfl) L.nil)) (c_changes_at hr hp hx h1 hn hmm) rfl) (E.call (L.cons (E.name rfl) (L.cons (E.name rfl) L.nil)) (c_changes_at hr hp hy h1 hn hmm) rfl) B.sub)))⟩
end

section
open PySem PySem.W PyProof.Rows PySem.Calls
set_option maxRecDepth 100000
variable {Γ : Gl}


structure RowOk (g : List Int) : Prop where
  len : g.length ≤ 8
  sm : SmL 4000 g
  st : StOk g.length g (zder g)
theorem stTail_ok : ∀ (n : Nat) (a b : List Int), StOk n a b → ∀ p ∈ stTail n a b, p.length ≤ 50 ∧ SmL 8000 p
  | 0, a, b, h, p, hp => by simp [stTail] at hp
  | n + 1, a, b, h, p, hp => by
    unfold stTail at hp
    split at hp
    · cases hp
    · rename_i hb
      obtain ⟨la, lb, hmm, sa, sb, sr, hok'⟩ := h hb
      rcases List.mem_cons.mp hp with rfl | hp
      · exact ⟨by omega, sb⟩
      · exact stTail_ok n _ _ hok' p hp
theorem stTail_len : ∀ (n : Nat) (a b : List Int), (stTail n a b).length ≤ n
  | 0, a, b => by simp [stTail]
  | n + 1, a, b => by
    unfold stTail; split
    · simp
    · have := stTail_len n b (nextRow a b); simp; omega
theorem RowOk.row {g : List Int} (h : RowOk g) : (∀ p ∈ sturm g, p.length ≤ 50 ∧ SmL 8000 p) ∧ (sturm g).length ≤ 50 := by
  have hl := h.len
  refine ⟨fun p hp => ?_, ?_⟩
  · rcases List.mem_cons.mp hp with rfl | hp
    · exact ⟨by omega, h.sm.mono (by omega)⟩
    · exact stTail_ok _ _ _ h.st p hp
  · have := stTail_len g.length g (zder g)
    unfold sturm; simp; omega
theorem c_count_roots {k n : Nat} {f : List Int} {x y : Pt} (hs : SimpleOk f) (hr : RowOk (simpleS f)) (hx : Okp n x) (hy : Okp n y) (h1 : 1 ≤ n) (hn : n ≤ 4000) : Cf Γ (k + 9) (S "count_roots") [il f, x.d, y.d] (.int (countRow (sturm (simpleS f)) x y)) := by
  obtain ⟨r1, r2⟩ := hr.row
  have hl := hr.len
  exact ⟨of_count_roots (o := .ret _) (X.ok (X.ret (E.call (L.cons (E.call (L.cons (E.call (L.cons (E.name rfl) L.nil) (c_simple_part hs) rfl) L.nil) (c_sturm_row (by omega) (hr.sm.mono (by omega)) hr.st) rfl) (L.cons (E.name rfl) (L.cons (E.name rfl) L.nil))) (c_count_by_row r2 r1 hx hy h1 hn (by omega)) rfl)))⟩
theorem F.maxl {k : Nat} {l : List Int} {m : Int} (h1 : m ∈ l) (h2 : ∀ a ∈ l, a ≤ m) : F Γ k (.builtin "max") [il l] (.int m) := ⟨BiS.maxl h1 h2⟩
theorem foldl_max (l : List Int) (m : Int) : m ≤ l.foldl max m ∧ (∀ a ∈ l, a ≤ l.foldl max m) ∧ (l.foldl max m = m ∨ l.foldl max m ∈ l) := by
  induction l generalizing m with
  | nil => exact ⟨Int.le_refl _, by simp, by simp⟩
  | cons c l ih =>
    obtain ⟨h1, h2, h3⟩ := ih (max m c)
    refine ⟨by have : m ≤ max m c := by omega
               exact Int.le_trans this h1, fun a ha => ?_, ?_⟩
    · rcases List.mem_cons.mp ha with rfl | ha
      · have : a ≤ max m a := by omega
        exact Int.le_trans this h1
      · exact h2 a ha
    · rcases h3 with h3 | h3
      · by_cases hm : c ≤ m
        · exact .inl (by rw [List.foldl_cons, h3]; omega)
        · exact .inr (by rw [List.foldl_cons, h3, show max m c = c by omega]; exact .head _)
      · exact .inr (.tail _ h3)
theorem c_root_bound {k n : Nat} {f : List Int} (hf : f.length ≤ 50) (h0 : lead f ≠ 0) (hm : SmL n f) (hn : n ≤ 9000) : Cf Γ (k + 2) (S "root_bound") [il f] (.int (rootBound f)) := by
  have hne : f ≠ [] := by intro e; subst e; exact h0 rfl
  obtain ⟨m1, m2, m3⟩ := foldl_max (f.map fun c => (c.natAbs : Int)) 0
  have hmem : (f.map fun c => (c.natAbs : Int)).foldl max 0 ∈ f.map fun c => (c.natAbs : Int) := by
    rcases m3 with m3 | m3
    · rw [m3]
      cases f with
      | nil => exact absurd rfl hne
      | cons c f =>
        have h1 := m2 (c.natAbs : Int) (by simp)
        rw [m3] at h1
        have : (c.natAbs : Int) = 0 := by omega
        rw [List.map_cons, this]; exact .head _
    · exact m3
  have e : rootBound f = 2 + ((f.map fun c => (c.natAbs : Int)).foldl max 0).fdiv (lead f).natAbs := rfl
  rw [e]
  generalize (f.map fun c => (c.natAbs : Int)).foldl max 0 = M at *
  refine ⟨of_root_bound (o := .ret _) (X.ok (X.assign (E.bcall b_max (L.cons (E.conv (d' := il (f.map fun c => (c.natAbs : Int))) (E.compMap (σc := []) f .int (fun c => .int (if c < 0 then -c else c)) (I.list (E.name rfl)) (by decide +kernel) (by walk_at "inner") (by omega) (fun x hx => ⟨_, A.name (by walk_at "st"), El.some (E.bcall b_abs (L.cons (E.name rfl) L.nil) (by walk_at "bi") rfl) has_nil⟩)) ?_) L.nil) (F.maxl hmem m2) rfl) (by walk_at "st")
    (X.ret (E.bin E.int (E.bin (E.name rfl) (E.conv (d' := .int ((lead f).natAbs : Int)) (E.bcall b_abs (L.cons (E.call (L.cons (E.name rfl) L.nil) (c_zlead (by omega)) rfl) L.nil) F.abs rfl) (by rw [abs_if])) (B.div (by omega) (by rw [Int.natAbs_natCast]; exact hm.lead.log hn))) B.add))))⟩
  simp only [List.map_map, abs_if, D.list.injEq]
  rfl
theorem gcdI_dvd_left (a b : Int) : gcdI a b ∣ a := Int.gcd_dvd_left ..
theorem gcdI_dvd_right (a b : Int) : gcdI a b ∣ b := Int.gcd_dvd_right ..
theorem ratS_ok {n : Nat} {t b : Int} (hb : 0 < b) (h1 : Sm n t) (h2 : Sm n b) : Okq (n + 1) (ratS t b) := by
  have hg : 0 < gcdI t b := by have := gcdI_ne (a := t) (b := b) (by omega); have := gcdI_nonneg t b; omega
  have e : ratS t b = (t.fdiv (gcdI t b), b.fdiv (gcdI t b)) := by unfold ratS; simp only [gt_iff_lt, hb, if_true]
  rw [e]
  refine ⟨?_, h1.fdiv, h2.fdiv⟩
  obtain ⟨c, hc⟩ := gcdI_dvd_right t b
  have hc0 : 0 < c := by
    by_cases h : 0 < c
    · exact h
    · have : gcdI t b * c ≤ 0 := Int.mul_nonpos_of_nonneg_of_nonpos (by omega) (by omega)
      omega
  have : b.fdiv (gcdI t b) = c := by
    generalize gcdI t b = g at *
    rw [hc, Int.mul_fdiv_cancel_left _ (by omega)]
  show 0 < b.fdiv (gcdI t b)
  omega
theorem raddS_ok {n : Nat} {p q : Int × Int} (hp : Okq n p) (hq : Okq n q) : Okq (n + n + 2) (raddS p q) :=
  ratS_ok (n := n + n + 1) (Int.mul_pos hp.pos hq.pos) ((hp.top.mul hq.bot).add (hq.top.mul hp.bot)) ((hp.bot.mul hq.bot).mono (by omega))
theorem half_ok {n : Nat} (h : 2 ≤ n) : Okq n (1, 2) := ⟨by decide, Sm.mono (n := 2) (by unfold Sm; decide) h, Sm.mono (n := 2) (by unfold Sm; decide) h⟩
theorem midS_ok {n : Nat} {p q : Int × Int} (hp : Okq n p) (hq : Okq n q) : Okq (n + n + 5) (midS p q) := by
  have h1 := raddS_ok hp hq
  exact ratS_ok (n := n + n + 4) (Int.mul_pos h1.pos (by decide)) ((h1.top.mul (m := 1) (b := 1) (by unfold Sm; decide)).mono (by omega)) ((h1.bot.mul (m := 2) (b := 2) (by unfold Sm; decide)).mono (by omega))
theorem E.half {sc : Scope} {k : Nat} {σ : Ctx} {pos : Pos} (hx : sc.names.lookup (S "HALF") = some .globalImplicit) : E Γ sc k (.Name (S "HALF") pos) σ (dq (1, 2)) σ := by
  refine ⟨fun A env P g s Q R St _ q => ?_⟩
  obtain ⟨a, t, u, n, hm, ho⟩ := St.ok.half
  exact EvE.global St hx hm (q _ P g s.heap s.toks Step.refl St (mk_tup (St.base _ _ ho) (atL_cons mk_int (atL_cons mk_int atL_nil)))) (by decide +kernel)
theorem c_middle {k n : Nat} {p q : Int × Int} (hp : Okq n p) (hq : Okq n q) (hn : n ≤ 1900) : Cf Γ (k + 4) (S "middle") [dq p, dq q] (dq (midS p q)) :=
  ⟨of_middle (o := .ret _) (X.ok (X.ret (E.call (L.cons (E.call (L.cons (E.name rfl) (L.cons (E.name rfl) L.nil)) (c_radd hp hq (by omega)) rfl) (L.cons (E.half rfl) L.nil)) (c_rmul (raddS_ok hp hq) (half_ok (by omega)) (by omega)) rfl)))⟩
theorem c_linear_of {k : Nat} {q : Int × Int} : Cf Γ (k + 1) (S "linear_of") [dq q] (il [-q.1, q.2]) := ⟨of_linear_of (o := .ret _) (X.ok (X.ret (E.lst (L.cons (E.un (E.sub (E.name rfl) E.int (by walk_at "get")) (by walk_at "op")) (L.cons (E.sub (E.name rfl) E.int (by walk_at "get")) L.nil)) (by walk_at "side"))))⟩
noncomputable abbrev Iv := (Int × Int) × (Int × Int)
noncomputable abbrev di (i : Iv) : D := .tup [dq i.1, dq i.2]
noncomputable def inside (x : Int × Int) (i : Iv) : Bool := decide (rcmp i.1 x ≤ 0) && decide (rcmp x i.2 ≤ 0)
theorem c_is_inside {k n : Nat} {x : Int × Int} {i : Iv} (hx : Okq n x) (h1 : Okq n i.1) (h2 : Okq n i.2) (hn : n ≤ 4000) : Cf Γ (k + 2) (S "is_inside") [dq x, di i] (.bool (inside x i)) :=
  ⟨of_is_inside (o := .ret _) (X.ok (X.ret (E.and (E.cmp (E.call (L.cons (E.sub (E.name rfl) E.int (by walk_at "get")) (L.cons (E.name rfl) L.nil)) (c_rcompare (h1.top.ok hx.bot (by omega)) (hx.top.ok h1.bot (by omega))) rfl) E.int C.le) fun _ => (E.cmp (E.call (L.cons (E.name rfl) (L.cons (E.sub (E.name rfl) E.int (by walk_at "get")) L.nil)) (c_rcompare (hx.top.ok h2.bot (by omega)) (h2.top.ok hx.bot (by omega))) rfl) E.int C.le))))⟩
noncomputable def halvedS (f : List Int) (i : Iv) : Iv :=
  if valSign f (midS i.1 i.2) = 0 then (midS i.1 i.2, midS i.1 i.2) else if valSign f (midS i.1 i.2) = valSign f i.1 then (midS i.1 i.2, i.2) else (i.1, midS i.1 i.2)
theorem c_halved {k n m : Nat} {f : List Int} {i : Iv} (hf : f.length ≤ 50) (hm : SmL m f) (hmm : m ≤ 20000) (h1 : Okq n i.1) (h2 : Okq n i.2) (hn : n ≤ 1900) (h0 : 1 ≤ n) : Cf Γ (k + 5) (S "halved") [il f, di i] (di (halvedS f i)) := by
  have hmid := midS_ok h1 h2
  by_cases hz : valSign f (midS i.1 i.2) = 0
  · have e : halvedS f i = (midS i.1 i.2, midS i.1 i.2) := by unfold halvedS; rw [if_pos hz]
    rw [e]
    exact ⟨of_halved (o := .ret _) (X.ok (X.unpack (E.name rfl) (A.tup (AL.cons (A.name (by walk_at "st")) (AL.cons (A.name (by walk_at "st")) AL.nil))) (X.assign (E.call (L.cons (E.name rfl) (L.cons (E.name rfl) L.nil)) (c_middle h1 h2 hn) rfl) (by walk_at "st") (X.assign (E.call (L.cons (E.name rfl) (L.cons (E.name rfl) L.nil)) (c_value_sign hf hm hmid (by omega) (by omega) hmm) rfl) (by walk_at "st")
      (X.iteR (T.conv (c' := true) (T.cmp (E.name rfl) E.int (by walk_at "op")) (by simpa using hz)) (X.ret (E.tup (L.cons (E.name rfl) (L.cons (E.name rfl) L.nil)) (by walk_at "side"))))))))⟩
  · refine ⟨of_halved (o := .ret _) (X.ok (X.unpack (E.name rfl) (A.tup (AL.cons (A.name (by walk_at "st")) (AL.cons (A.name (by walk_at "st")) AL.nil))) (X.assign (E.call (L.cons (E.name rfl) (L.cons (E.name rfl) L.nil)) (c_middle h1 h2 hn) rfl) (by walk_at "st") (X.assign (E.call (L.cons (E.name rfl) (L.cons (E.name rfl) L.nil)) (c_value_sign hf hm hmid (by omega) (by omega) hmm) rfl) (by walk_at "st")
      (X.skip (T.conv (c' := false) (T.cmp (E.name rfl) E.int (by walk_at "op")) (by simpa using hz)) (X.ret (σ1 := []) (E.ite (T.cmp (E.name rfl) (E.call (L.cons (E.name rfl) (L.cons (E.name rfl) L.nil)) (c_value_sign hf hm h1 h0 (by omega) hmm) rfl) C.eq) (fun hc => ?_) fun hc => ?_))))))) ⟩
    · have e : halvedS f i = (midS i.1 i.2, i.2) := by unfold halvedS; rw [if_neg hz, if_pos (by simpa using hc)]
      rw [e]; exact E.out (E.tup (L.cons (E.name rfl) (L.cons (E.name rfl) L.nil)) (by walk_at "side")) has_nil
    · have e : halvedS f i = (i.1, midS i.1 i.2) := by unfold halvedS; rw [if_neg hz, if_neg (by simpa using hc)]
      rw [e]; exact E.out (E.tup (L.cons (E.name rfl) (L.cons (E.name rfl) L.nil)) (by walk_at "side")) has_nil
inductive KeptR (f : List Int) (xs : List (Int × Int)) : Iv → Iv → Prop
  | stop {i : Iv} (h1 : Okq 1000 i.1) (h2 : Okq 1000 i.2) (h : i.1 = i.2 ∨ ∀ x ∈ xs, inside x i = false) : KeptR f xs i i
  | step {i r : Iv} (h1 : Okq 1000 i.1) (h2 : Okq 1000 i.2) (h : i.1 ≠ i.2) (h' : ∃ x ∈ xs, inside x i = true) (n : KeptR f xs (halvedS f i) r) : KeptR f xs i r
theorem shaped_dq (q : Int × Int) : SeqAt.shaped (dq q).py = true := by simp [D.py, D.pyL, SeqAt.shaped, PyData.canLay0, PyData.canLayAll0, PyData.depth, PyData.depthAll]
theorem eqv_dq (p q : Int × Int) : PyData.eqv (dq p).py (dq q).py = decide (p = q) := by
  obtain ⟨a, b⟩ := p; obtain ⟨c, d⟩ := q
  simp only [D.py, D.pyL, PyData.eqv, PyData.eqvAll, Prod.mk.injEq, Bool.and_true]
  by_cases h1 : a = c <;> by_cases h2 : b = d <;> simp [h1, h2]
noncomputable abbrev koCtx (f : List Int) (i : Iv) (xs : List (Int × Int)) : Ctx := [(S "f", .d (il f)), (S "interval", .d (di i)), (S "numbers", .d (.list (xs.map dq)))]
theorem w_kept {k m : Nat} {f : List Int} {xs : List (Int × Int)} (hf : f.length ≤ 50) (hm : SmL m f) (hmm : m ≤ 20000) (hx : ∀ x ∈ xs, Okq 1000 x) (hl : xs.length ≤ 1000) {i r : Iv} (h : KeptR f xs i r) :
    W Γ (fS 52) (k + 5) (whT 52) (whB 52) [] (koCtx f i xs) (.next fun σ => σ.has (koCtx f r xs)) := by
  have test : ∀ (i : Iv) (c : Bool), Okq 1000 i.1 → Okq 1000 i.2 → (decide (i.1 ≠ i.2) && xs.any fun x => inside x i) = c → T Γ (fS 52) (k + 5) (whT 52) (koCtx f i xs) c (koCtx f i xs) := fun i c h1 h2 hc =>
    T.conv (T.and (T.cmp (E.sub (E.name rfl) E.int (by walk_at "get")) (E.sub (E.name rfl) E.int (by walk_at "get")) (C.ned (shaped_dq _) (shaped_dq _))) fun _ => T.value (E.bcall b_any (L.cons (E.conv (d' := .list ((xs.map fun x => inside x i).map .bool)) (E.compMap (σc := [(S "interval", .d (di i))]) xs dq (fun x => .bool (inside x i)) (I.list (E.name rfl)) (by decide +kernel) (by walk_at "inner") hl (fun x hx' => ⟨_, A.name (by walk_at "st"), El.some (E.call (L.cons (E.name rfl) (L.cons (E.name rfl) L.nil)) (c_is_inside (hx x hx') h1 h2 (by omega)) rfl) (has_take 1 rfl)⟩)) (by simp [Function.comp_def])) L.nil) F.any rfl) R.bool) (by
      rw [eqv_dq, ← hc]; simp [List.any_map, Function.comp_def])
  induction h with
  | stop h1 h2 h =>
    refine W.stop (test _ false h1 h2 ?_) has_refl
    rcases h with h | h
    · simp [h]
    · rw [Bool.and_eq_false_iff]; right; rw [List.any_eq_false]; intro x hx; rw [h x hx]; exact Bool.false_ne_true
  | @step i r h1 h2 h h' n ih =>
    refine W.turn (J := fun σ => σ.has (koCtx f (halvedS f i) xs)) (test _ true h1 h2 ?_) (X.assign (E.call (L.cons (E.name rfl) (L.cons (E.name rfl) L.nil)) (c_halved hf hm hmm h1 h2 (by omega) (by omega)) rfl) (by walk_at "st") (X.done (has_take 3 rfl))) fun σ2 hσ => W.has ih hσ
    rw [Bool.and_eq_true, decide_eq_true_eq, List.any_eq_true]; exact ⟨h, h'⟩
theorem c_kept_off {k m : Nat} {f : List Int} {xs : List (Int × Int)} (hf : f.length ≤ 50) (hm : SmL m f) (hmm : m ≤ 20000) (hx : ∀ x ∈ xs, Okq 1000 x) (hl : xs.length ≤ 1000) {i r : Iv} (h : KeptR f xs i r) : Cf Γ (k + 6) (S "kept_off") [il f, di i, .list (xs.map dq)] (di r) :=
  ⟨of_kept_off (o := .ret _) (X.ok (X.while (w_kept hf hm hmm hx hl h) fun σ2 hσ => X.has (X.ret (E.name rfl)) hσ))⟩
end

section
open PySem PySem.W PyProof.Rows PySem.Calls
set_option maxRecDepth 100000
variable {Γ : Gl}


theorem E.pop {sc : Scope} {k : Nat} {σ : Ctx} {x : Str} {px apos pos : Pos} {a : Addr} {ys : List D} {d : D} (hx : σ.lookup x = some (.own a (.list (ys ++ [d])))) (hn : ys.length ≤ 1000) (hline : (apos.endLine == pos.line) = true := by with_unfolding_all rfl)
    (hbase : ∀ env, attributeBase (.Name x px) (Str.ofString "pop") env (eval (.Name x px) env) = eval (.Name x px) env := by intro _; with_unfolding_all rfl) (hd : (x == ("__debug__" : Str)) = false := by decide +kernel) :
    E Γ sc k (.Call (.Attribute (.Name x px) (Str.ofString "pop") apos) [] [] pos) σ d (upd σ x (.own a (.list ys))) := ⟨EvE.pop hx hn hline hbase hd⟩
theorem E.insert {sc : Scope} {k : Nat} {σ σ1 σ2 : Ctx} {x : Str} {px apos pos : Pos} {a : Addr} {xs : List D} {e e' : Expr} {i : Int} {d : D} (hx : σ.lookup x = some (.own a (.list xs))) (h : E Γ sc k e σ (.int i) σ1) (h' : E Γ sc k e' σ1 d σ2) (hx1 : σ2.lookup x = some (.own a (.list xs))) (hn : xs.length ≤ 1000) (hi : 0 ≤ i) (hi' : i ≤ xs.length) (hline : (apos.endLine == pos.line) = true := by with_unfolding_all rfl)
    (hs : ∀ env, starEach [e, e'] env = [(false, eval e env), (false, eval e' env)] := by intro _; with_unfolding_all rfl) (hbase : ∀ env, attributeBase (.Name x px) (Str.ofString "insert") env (eval (.Name x px) env) = eval (.Name x px) env := by intro _; with_unfolding_all rfl) (hd : (x == ("__debug__" : Str)) = false := by decide +kernel) :
    E Γ sc k (.Call (.Attribute (.Name x px) (Str.ofString "insert") apos) [e, e'] [] pos) σ .none (upd σ2 x (.own a (.list (xs.take i.toNat ++ d :: xs.drop i.toNat)))) := ⟨EvE.insert hx h.ok h'.ok hx1 hn hi hi' hline hs hbase hd⟩
noncomputable def below (p e : Iv) : Bool := decide (rcmp e.2 p.2 < 0)
noncomputable def insAt (p : Iv) (l : List Iv) : Nat := (l.takeWhile (below p)).length
noncomputable def insS (l : List Iv) (p : Iv) : List Iv := l.take (insAt p l) ++ p :: l.drop (insAt p l)
noncomputable def sortedS (l : List Iv) : List Iv := l.foldl insS []
theorem insAt_le (p : Iv) : ∀ l : List Iv, insAt p l ≤ l.length
  | [] => Nat.le_refl _
  | e :: l => by
    have := insAt_le p l
    unfold insAt at *
    rw [List.takeWhile_cons]; split <;> simp; omega
theorem insAt_lt (p : Iv) : ∀ (l : List Iv) (j : Nat) (h : j < l.length), j < insAt p l → below p l[j] = true
  | e :: l, j, h, hj => by
    unfold insAt at hj
    rw [List.takeWhile_cons] at hj
    split at hj
    · rename_i hb
      cases j with
      | zero => exact hb
      | succ j => exact insAt_lt p l j (by simpa using h) (by unfold insAt; simpa using hj)
    · simp at hj
theorem insAt_eq (p : Iv) : ∀ (l : List Iv) (h : insAt p l < l.length), below p l[insAt p l] = false
  | e :: l, h => by
    cases hb : below p e with
    | false =>
      have : insAt p (e :: l) = 0 := by unfold insAt; rw [List.takeWhile_cons, hb]; simp
      simp only [this, List.getElem_cons_zero, hb]
    | true =>
      have : insAt p (e :: l) = insAt p l + 1 := by unfold insAt; rw [List.takeWhile_cons, hb]; simp
      simp only [this, List.getElem_cons_succ]
      exact insAt_eq p l (by rw [this] at h; simpa using h)
theorem insS_len (p : Iv) (l : List Iv) : (insS l p).length = l.length + 1 := by
  have := insAt_le p l
  unfold insS; simp; omega
theorem insS_mem (p : Iv) (l : List Iv) (x : Iv) (h : x ∈ insS l p) : x = p ∨ x ∈ l := by
  unfold insS at h
  rcases List.mem_append.mp h with h | h
  · exact .inr (List.mem_of_mem_take h)
  · rcases List.mem_cons.mp h with h | h
    · exact .inl h
    · exact .inr (List.mem_of_mem_drop h)
theorem sortedS_len (l acc : List Iv) : (l.foldl insS acc).length = acc.length + l.length := by
  induction l generalizing acc with
  | nil => rfl
  | cons p l ih => rw [List.foldl_cons, ih, insS_len]; simp; omega
theorem sortedS_mem (l acc : List Iv) (x : Iv) (h : x ∈ l.foldl insS acc) : x ∈ acc ∨ x ∈ l := by
  induction l generalizing acc with
  | nil => exact .inl h
  | cons p l ih =>
    rcases ih _ h with h | h
    · rcases insS_mem _ _ _ h with rfl | h
      · exact .inr (.head _)
      · exact .inl h
    · exact .inr (.tail _ h)
noncomputable def forB (i : Nat) : List Stmt := match ((fB i).find? fun s => match s with | .For .. => true | _ => false) with | some (.For _ _ b _ _) => b | _ => []
noncomputable def wh2T (i : Nat) : Expr := match ((forB i).find? fun s => match s with | .While .. => true | _ => false) with | some (.While t _ _ _) => t | _ => .Constant .none 0 default
noncomputable def wh2B (i : Nat) : List Stmt := match ((forB i).find? fun s => match s with | .While .. => true | _ => false) with | some (.While _ b _ _) => b | _ => []
noncomputable abbrev soCtx (ps l : List Iv) (p : Iv) (ad : Addr) (j : Nat) : Ctx := [(S "pieces", .d (.list (ps.map di))), (S "found", .own ad (.list (l.map di))), (S "piece", .d (di p)), (S "at", .d (.int (j : Nat)))]
theorem w_sorted {k : Nat} {ps l : List Iv} {p : Iv} {ad : Addr} (hp : Okq 4000 p.2) (hl : l.length ≤ 500) (hm : ∀ e ∈ l, Okq 4000 e.2) : ∀ n j, insAt p l - j = n → j ≤ insAt p l → W Γ (fS 53) (k + 1) (wh2T 53) (wh2B 53) [] (soCtx ps l p ad j) (.next fun σ => σ.has (soCtx ps l p ad (insAt p l)))
  | n, j, hn, hj => by
    have hle := insAt_le p l
    by_cases hjl : j < l.length
    · have e0 : (di l[j]) = .tup [dq l[j].1, dq l[j].2] := rfl
      have hem := hm _ (List.getElem_mem hjl)
      have test : ∀ c, below p l[j] = c → T Γ (fS 53) (k + 1) (wh2T 53) (soCtx ps l p ad j) c (soCtx ps l p ad j) := fun c hc =>
        T.conv (T.and (T.cmp (E.name rfl) (E.lenOwn rfl (by simp; omega) rfl) C.lt) fun _ => T.cmp (E.call (L.cons (E.sub (E.subOwn (d := di l[j]) (j := j) rfl (E.name rfl) rfl (by rw [List.length_map]; exact idx_nat hjl) (by rw [List.getElem?_map, List.getElem?_eq_getElem hjl]; rfl) (by simp; omega)) E.int (G.tup rfl rfl (by simp))) (L.cons (E.sub (E.name rfl) E.int (by walk_at "get")) L.nil)) (c_rcompare (hem.top.ok hp.bot (by omega)) (hp.top.ok hem.bot (by omega))) rfl) E.int C.lt) (by
          rw [← hc]; unfold below; simp; omega)
      cases hb : below p l[j] with
      | true =>
        have hlt : j < insAt p l := by
          by_cases h : j < insAt p l
          · exact h
          · have : j = insAt p l := by omega
            subst this
            rw [insAt_eq p l hjl] at hb; cases hb
        cases n with
        | zero => omega
        | succ n => exact W.turn (J := fun σ => σ.has (soCtx ps l p ad (j + 1))) (test true hb) (X.aug rfl E.int N.add (by walk_at "st") (X.done (has_take 4 rfl))) fun σ2 hσ => W.has (w_sorted hp hl hm n (j + 1) (by omega) (by omega)) hσ
      | false =>
        have heq : j = insAt p l := by
          by_cases h : j < insAt p l
          · rw [insAt_lt p l j hjl h] at hb; cases hb
          · omega
        subst heq
        exact W.stop (test false hb) has_refl
    · have heq : j = insAt p l := by omega
      subst heq
      exact W.stop (T.conv (c' := false) (T.and (c' := false) (T.cmp (E.name rfl) (E.lenOwn rfl (by simp; omega) rfl) C.lt) fun hc => by simp at hc; omega) (by simp)) has_refl
theorem c_sorted {k : Nat} {ps : List Iv} (hl : ps.length ≤ 500) (hok : ∀ p ∈ ps, Okq 4000 p.1 ∧ Okq 4000 p.2) : Cf Γ (k + 2) (S "sorted_intervals") [.list (ps.map di)] (.list ((sortedS ps).map di)) := by
  refine ⟨of_sorted_intervals (o := .ret _) (X.ok (X.assignO (O.lst (ds := (([] : List Iv).map di)) L.nil (by simp)) (by walk_at "st") fun ad => ?_))⟩
  refine X.forH (fun i => [(S "pieces", .d (.list (ps.map di))), (S "found", .own ad (.list ((sortedS (ps.take i)).map di)))]) (I.list (E.name rfl)) has_refl (fun i d hd => ?_) ?_
  · obtain ⟨p, hp, rfl⟩ := map_get hd
    have hpm := hok p (List.mem_of_getElem? hp)
    refine ⟨_, A.name (by walk_at "st"), X.assign E.int (by walk_at "st") ?_⟩
    have e1 : sortedS (ps.take (i + 1)) = insS (sortedS (ps.take i)) p := by unfold sortedS; rw [List.take_add_one, hp, List.foldl_append]; rfl
    rw [e1]
    have hlen : (sortedS (ps.take i)).length ≤ 500 := by
      have h1 := sortedS_len (ps.take i) []
      have h2 : (ps.take i).length ≤ ps.length := by rw [List.length_take]; omega
      unfold sortedS; simp only [List.length_nil] at h1; omega
    have hm : ∀ e ∈ sortedS (ps.take i), Okq 4000 e.1 ∧ Okq 4000 e.2 := fun e he => by
      rcases sortedS_mem _ _ _ he with h | h
      · cases h
      · exact hok e (List.mem_of_mem_take h)
    generalize sortedS (ps.take i) = l at hlen hm ⊢
    refine X.while (J := fun σ => σ.has [(S "pieces", .d (.list (ps.map di))), (S "found", .own ad (.list (l.map di))), (S "piece", .d (di p)), (S "at", .d (.int (insAt p l : Nat)))]) ?_ fun σ2 hσ => X.has (X.expr (E.insert rfl (E.name rfl) (E.name rfl) rfl (by simp; omega) (by omega) (by have := insAt_le p l; simp; omega)) (X.done (has_take 2 ?_))) hσ
    · exact w_sorted hpm.2 hlen (fun e he => (hm e he).2) _ 0 rfl (Nat.zero_le _)
    · rw [Int.toNat_natCast]
      unfold insS
      rw [List.map_append, List.map_cons, List.map_take, List.map_drop]
      rfl
  · have : (ps.map di).length = ps.length := by simp
    rw [this, List.take_length]
    exact X.ret (σ1 := []) ((E.nameOwn rfl).out has_nil)
end

section
open PySem PySem.W PyProof.Rows PySem.Calls
set_option maxRecDepth 100000
variable {Γ : Gl}


inductive SplitR (f : List Int) (row : List (List Int)) : List Iv → List Iv → List Iv × Option (Int × Int) → Prop
  | done {found : List Iv} (hl : found.length ≤ 500) : SplitR f row [] found (found, none)
  | one {w found : List Iv} {i : Iv} {r : List Iv × Option (Int × Int)} (h1 : Okq 1000 i.1) (h2 : Okq 1000 i.2) (hl : found.length ≤ 500) (hw : w.length ≤ 500) (hc : countRow row (.fin i.1) (.fin i.2) = 1) (n : SplitR f row w (found ++ [i]) r) : SplitR f row (w ++ [i]) found r
  | zero {w found : List Iv} {i : Iv} {r : List Iv × Option (Int × Int)} (h1 : Okq 1000 i.1) (h2 : Okq 1000 i.2) (hl : found.length ≤ 500) (hw : w.length ≤ 500) (hc : countRow row (.fin i.1) (.fin i.2) < 1) (n : SplitR f row w found r) : SplitR f row (w ++ [i]) found r
  | root {w found : List Iv} {i : Iv} (h1 : Okq 1000 i.1) (h2 : Okq 1000 i.2) (hl : found.length ≤ 500) (hw : w.length ≤ 500) (hc : countRow row (.fin i.1) (.fin i.2) > 1) (hz : valSign f (midS i.1 i.2) = 0) : SplitR f row (w ++ [i]) found ([], some (midS i.1 i.2))
  | more {w found : List Iv} {i : Iv} {r : List Iv × Option (Int × Int)} (h1 : Okq 1000 i.1) (h2 : Okq 1000 i.2) (hl : found.length ≤ 500) (hw : w.length ≤ 500) (hc : countRow row (.fin i.1) (.fin i.2) > 1) (hz : valSign f (midS i.1 i.2) ≠ 0) (n : SplitR f row (w ++ [(midS i.1 i.2, i.2), (i.1, midS i.1 i.2)]) found r) : SplitR f row (w ++ [i]) found r
noncomputable def optD : Option (Int × Int) → D
  | none => .none
  | some q => dq q
noncomputable def resD (r : List Iv × Option (Int × Int)) : D := .tup [.list (r.1.map di), optD r.2]
theorem pyL_di (l : List Iv) : PyData.canLayAll0 (D.pyL (l.map di)) = true ∧ PyData.depthAll (D.pyL (l.map di)) ≤ 2 := by
  induction l with
  | nil => exact ⟨rfl, by decide⟩
  | cons c l ih => exact ⟨by simp [D.pyL, D.py, PyData.canLayAll0, PyData.canLay0, ih.1], by simp only [List.map_cons, D.pyL, D.py, PyData.depthAll, PyData.depth]; omega⟩
theorem shaped_di (l : List Iv) : SeqAt.shaped (D.list (l.map di)).py = true := by
  obtain ⟨h1, h2⟩ := pyL_di l
  unfold SeqAt.shaped
  simp only [D.py, PyData.canLay0, PyData.depth, h1, Bool.true_and, decide_eq_true_eq]
  omega
noncomputable abbrev spCtx (f : List Int) (row : List (List Int)) (bound : Int) (w found : List D) (a1 a2 : Addr) : Ctx := [(S "f", .d (il f)), (S "row", .d (.list (llD row))), (S "bound", .d (.int bound)), (S "waiting", .own a1 (.list w)), (S "found", .own a2 (.list found))]
theorem w_split {k m : Nat} {f : List Int} {row : List (List Int)} {bound : Int} {a1 a2 : Addr} (hf : f.length ≤ 50) (hm : SmL m f) (hmm : m ≤ 20000) (hr : row.length ≤ 50) (hp : ∀ p ∈ row, p.length ≤ 50 ∧ SmL m p) {w found : List Iv} {r : List Iv × Option (Int × Int)} (h : SplitR f row w found r) :
    V Γ (fS 50) (k + 6) (whT 50) (whB 50) ((fB 50).drop 3) (spCtx f row bound (w.map di) (found.map di) a1 a2) (.ret (resD r)) := by
  have test : ∀ (w found : List Iv) (c : Bool), (!w.isEmpty) = c → T Γ (fS 50) (k + 6) (whT 50) (spCtx f row bound (w.map di) (found.map di) a1 a2) c (spCtx f row bound (w.map di) (found.map di) a1 a2) := fun w found c hc =>
    T.conv (T.ownNe rfl (shaped_di w)) (by rw [← hc]; cases w <;> rfl)
  have ne : ∀ (w : List Iv) (i : Iv), (!(w ++ [i]).isEmpty) = true := fun w i => by cases w <;> rfl
  induction h with
  | @done found hl => exact V.stop (test [] found false rfl) (X.ret (σ1 := []) (E.out (E.tup (L.cons (E.nameOwn rfl) (L.cons E.none L.nil)) (by simp)) has_nil))
  | @one w found i r h1 h2 hl hw hc n ih =>
    refine V.turn (J := fun σ => σ.has (spCtx f row bound (w.map di) ((found ++ [i]).map di) a1 a2)) (test (w ++ [i]) found true (ne _ _)) ?_ fun σ2 hσ => V.has ih hσ
    rw [show (w ++ [i]).map di = w.map di ++ [di i] by simp, show (found ++ [i]).map di = found.map di ++ [di i] by simp]
    exact X.unpack (E.pop rfl (by simp; omega)) (A.tup (AL.cons (A.name (by walk_at "st")) (AL.cons (A.name (by walk_at "st")) AL.nil))) (X.assign (E.call (L.cons (E.name rfl) (L.cons (E.name rfl) (L.cons (E.name rfl) L.nil))) (c_count_by_row (x := .fin i.1) (y := .fin i.2) hr hp h1 h2 (by omega) (by omega) hmm) rfl) (by walk_at "st")
      (X.iteT (T.conv (c' := true) (T.cmp (E.name rfl) E.int (by walk_at "op")) (by simpa using hc)) (X.expr (E.append rfl (E.tup (L.cons (E.name rfl) (L.cons (E.name rfl) L.nil)) (by walk_at "side")) rfl (by simp; omega)) X.nil) (X.done (has_take 5 rfl))))
  | @zero w found i r h1 h2 hl hw hc n ih =>
    refine V.turn (J := fun σ => σ.has (spCtx f row bound (w.map di) (found.map di) a1 a2)) (test (w ++ [i]) found true (ne _ _)) ?_ fun σ2 hσ => V.has ih hσ
    rw [show (w ++ [i]).map di = w.map di ++ [di i] by simp]
    exact X.unpack (E.pop rfl (by simp; omega)) (A.tup (AL.cons (A.name (by walk_at "st")) (AL.cons (A.name (by walk_at "st")) AL.nil))) (X.assign (E.call (L.cons (E.name rfl) (L.cons (E.name rfl) (L.cons (E.name rfl) L.nil))) (c_count_by_row (x := .fin i.1) (y := .fin i.2) hr hp h1 h2 (by omega) (by omega) hmm) rfl) (by walk_at "st")
      (X.iteF (T.conv (c' := false) (T.cmp (E.name rfl) E.int (by walk_at "op")) (by simp; omega)) (X.skip (T.conv (c' := false) (T.cmp (E.name rfl) E.int (by walk_at "op")) (by simp; omega)) X.nil) (X.done (has_take 5 rfl))))
  | @root w found i h1 h2 hl hw hc hz =>
    have hmid := midS_ok h1 h2
    refine V.ret (test (w ++ [i]) found true (ne _ _)) ?_
    rw [show (w ++ [i]).map di = w.map di ++ [di i] by simp]
    refine X.unpack (E.pop rfl (by simp; omega)) (A.tup (AL.cons (A.name (by walk_at "st")) (AL.cons (A.name (by walk_at "st")) AL.nil))) (X.assign (E.call (L.cons (E.name rfl) (L.cons (E.name rfl) (L.cons (E.name rfl) L.nil))) (c_count_by_row (x := .fin i.1) (y := .fin i.2) hr hp h1 h2 (by omega) (by omega) hmm) rfl) (by walk_at "st")
      ⟨ExS.ret (Ex1.ite (T.ok (T.conv (c' := false) (T.cmp (E.name rfl) E.int (by walk_at "op")) (by simp; omega))) (fun h => by cases h) fun _ => ExS.ret (Ex1.ite (T.ok (T.conv (c' := true) (T.cmp (E.name rfl) E.int (by walk_at "op")) (by simp; omega))) (fun _ => X.ok ?_) fun h => by cases h))⟩)
    exact X.assign (E.call (L.cons (E.name rfl) (L.cons (E.name rfl) L.nil)) (c_middle h1 h2 (by omega)) rfl) (by walk_at "st") (X.iteR (T.conv (c' := true) (T.cmp (E.call (L.cons (E.name rfl) (L.cons (E.name rfl) L.nil)) (c_value_sign hf hm hmid (by omega) (by omega) hmm) rfl) E.int C.eq) (by simpa using hz)) (X.ret (E.tup (L.cons (E.lst (ds := ([] : List Iv).map di) L.nil (by simp)) (L.cons (E.name rfl) L.nil)) (by simp))))
  | @more w found i r h1 h2 hl hw hc hz n ih =>
    have hmid := midS_ok h1 h2
    refine V.turn (J := fun σ => σ.has (spCtx f row bound ((w ++ [(midS i.1 i.2, i.2), (i.1, midS i.1 i.2)]).map di) (found.map di) a1 a2)) (test (w ++ [i]) found true (ne _ _)) ?_ fun σ2 hσ => V.has ih hσ
    rw [show (w ++ [i]).map di = w.map di ++ [di i] by simp, show (w ++ [(midS i.1 i.2, i.2), (i.1, midS i.1 i.2)]).map di = w.map di ++ [di (midS i.1 i.2, i.2)] ++ [di (i.1, midS i.1 i.2)] by simp]
    exact X.unpack (E.pop rfl (by simp; omega)) (A.tup (AL.cons (A.name (by walk_at "st")) (AL.cons (A.name (by walk_at "st")) AL.nil))) (X.assign (E.call (L.cons (E.name rfl) (L.cons (E.name rfl) (L.cons (E.name rfl) L.nil))) (c_count_by_row (x := .fin i.1) (y := .fin i.2) hr hp h1 h2 (by omega) (by omega) hmm) rfl) (by walk_at "st")
      (X.iteF (T.conv (c' := false) (T.cmp (E.name rfl) E.int (by walk_at "op")) (by simp; omega)) (X.iteT (T.conv (c' := true) (T.cmp (E.name rfl) E.int (by walk_at "op")) (by simp; omega)) (X.assign (E.call (L.cons (E.name rfl) (L.cons (E.name rfl) L.nil)) (c_middle h1 h2 (by omega)) rfl) (by walk_at "st")
        (X.skip (T.conv (c' := false) (T.cmp (E.call (L.cons (E.name rfl) (L.cons (E.name rfl) L.nil)) (c_value_sign hf hm hmid (by omega) (by omega) hmm) rfl) E.int C.eq) (by simpa using hz))
        (X.expr (E.append rfl (E.tup (L.cons (E.name rfl) (L.cons (E.name rfl) L.nil)) (by walk_at "side")) rfl (by simp; omega)) (X.expr (E.append rfl (E.tup (L.cons (E.name rfl) (L.cons (E.name rfl) L.nil)) (by walk_at "side")) rfl (by simp; omega)) X.nil)))) X.nil) (X.done (has_take 5 rfl))))
noncomputable def startIv (f : List Int) : Iv := ((-rootBound f, 1), (rootBound f, 1))
theorem c_split_roots {k : Nat} {f : List Int} (hr : RowOk f) (h0 : lead f ≠ 0) {r : List Iv × Option (Int × Int)} (h : SplitR f (sturm f) [startIv f] [] r) : Cf Γ (k + 7) (S "split_roots") [il f] (resD r) := by
  have hl := hr.len
  obtain ⟨r1, r2⟩ := hr.row
  refine ⟨of_split_roots (o := .ret _) (X.ok (X.swapR (ns := [S "row", S "bound"]) rfl (M.d (E.call (L.cons (E.name rfl) L.nil) (c_sturm_row (by omega) (hr.sm.mono (by omega)) hr.st) rfl) (M.d (E.call (L.cons (E.name rfl) L.nil) (c_root_bound (by omega) h0 hr.sm (by omega)) rfl) M.nil)) (by walk_at "sts") (by decide +kernel) fun _ _ =>
    X.swapR (ns := [S "waiting", S "found"]) rfl (M.o (O.lst (L.cons (E.tup (L.cons (E.tup (L.cons (E.un (E.name rfl) (by walk_at "op")) (L.cons E.int L.nil)) (by walk_at "side")) (L.cons (E.tup (L.cons (E.name rfl) (L.cons E.int L.nil)) (by walk_at "side")) L.nil)) (by walk_at "side")) L.nil) (by simp)) (M.o (O.lst (ds := ([] : List Iv).map di) L.nil (by simp)) M.nil)) (by walk_at "sts") (by decide +kernel) fun T hT => ?_))⟩
  match T, hT with
  | [a1, a2], _ => exact X.whileV (w_split (k := k) (bound := rootBound f) (a1 := a1) (a2 := a2) (by omega) (hr.sm.mono (m := 8000) (by omega)) (by omega) r2 r1 h)
end

section
open PySem PySem.W PyProof.Rows PySem.Calls
set_option maxRecDepth 100000
variable {Γ : Gl}


structure SpAt (left : List Int) (r : List Iv × Option (Int × Int)) : Prop where
  len : left.length ≤ 8
  yes : left.length > 1 → RowOk left ∧ lead left ≠ 0 ∧ SplitR left (sturm left) [startIv left] [] r
  no : ¬ left.length > 1 → r = ([], none)
inductive IsoR : List Int → List (Int × Int) → List Iv × Option (Int × Int) → List Int × List (Int × Int) × List Iv → Prop
  | stop {left : List Int} {xs : List (Int × Int)} {found : List Iv} : IsoR left xs (found, none) (left, xs, found)
  | next {left left' : List Int} {xs : List (Int × Int)} {found : List Iv} {q : Int × Int} {r : List Iv × Option (Int × Int)} {res : List Int × List (Int × Int) × List Iv} (hl : left.length ≤ 8) (hm : SmL 4000 left) (hx : xs.length ≤ 100) (hq : Okq 1000 q)
      (hz : zexact left [-q.1, q.2] = some left') (hs : SpAt left' r) (n : IsoR left' (xs ++ [q]) r res) : IsoR left xs (found, some q) res
theorem e_split {k : Nat} {σ : Ctx} {p1 p2 p3 p4 p5 p6 p7 p8 p9 p10 p11 p12 : Pos} {n1 n2 : Nat} {left : List Int} {r : List Iv × Option (Int × Int)} (hs : SpAt left r) (hσ : σ.lookup (S "left") = some (.d (il left))) :
    E Γ (fS 51) (k + 8) (.IfExp (.Compare (.Call (.Name (S "zdegree") p1) [.Name (S "left") p2] [] p3) [.Gt] [.Constant (.int 0) n1 p4] p5) (.Call (.Name (S "split_roots") p6) [.Name (S "left") p7] [] p8) (.Tuple [.List [] p9, .Constant .none n2 p10] 0 p11) p12) σ (resD r) σ := by
  have hl := hs.len
  refine E.ite (T.cmp (E.call (L.cons (E.name hσ) L.nil) (c_zdegree (by omega)) rfl) E.int C.gt) (fun hc => ?_) fun hc => ?_
  · obtain ⟨h1, h2, h3⟩ := hs.yes (by simp at hc; omega)
    exact E.call (L.cons (E.name hσ) L.nil) (c_split_roots h1 h2 h3) rfl
  · rw [hs.no (by simp at hc; omega)]
    exact E.tup (L.cons (E.lst (ds := ([] : List Iv).map di) L.nil (by simp)) (L.cons E.none L.nil)) (by simp)
noncomputable abbrev isCtx (f left : List Int) (xs : List (Int × Int)) (r : List Iv × Option (Int × Int)) (ad : Addr) : Ctx := [(S "f", .d (il f)), (S "left", .d (il left)), (S "exact", .own ad (.list (xs.map dq))), (S "found", .d (.list (r.1.map di))), (S "met", .d (optD r.2))]
theorem isNotNone {k : Nat} (o : Option (Int × Int)) : C Γ k .IsNot (optD o) .none o.isSome := by
  cases o with
  | none => exact isNotNone_none
  | some q => exact isNotNone_tup
theorem w_iso {k : Nat} {f left : List Int} {xs : List (Int × Int)} {r : List Iv × Option (Int × Int)} {res : List Int × List (Int × Int) × List Iv} {ad : Addr} (h : IsoR left xs r res) :
    W Γ (fS 51) (k + 8) (whT 51) (whB 51) [] (isCtx f left xs r ad) (.next fun σ => σ.has (isCtx f res.1 res.2.1 (res.2.2, none) ad)) := by
  induction h with
  | stop => exact W.stop (T.cmp (E.name rfl) E.none isNotNone_none) has_refl
  | @next left left' xs found q r res hl hm hx hq hz hs n ih =>
    refine W.turn (J := fun σ => σ.has (isCtx f left' (xs ++ [q]) r ad)) (T.cmp (E.name rfl) E.none isNotNone_tup) (X.expr (E.append rfl (E.name rfl) rfl (by simp; omega)) (X.assign (E.call (L.cons (E.name rfl) (L.cons (E.call (L.cons (E.name rfl) L.nil) c_linear_of rfl) L.nil)) (c_zexact (s := 4000) (by omega) (by simp) (by simp) (by have := hq.pos; simp [lead]; omega) hm (fun c hc => ?_) (by omega) hz) rfl) (by walk_at "st") (X.unpack (e_split hs rfl) (A.tup (AL.cons (A.name (by walk_at "st")) (AL.cons (A.name (by walk_at "st")) AL.nil))) (X.done (has_take 5 ?_))))) fun σ2 hσ => W.has ih hσ
    · simp only [List.mem_cons, List.not_mem_nil, or_false] at hc
      rcases hc with rfl | rfl
      · exact hq.top.neg.mono (by omega)
      · exact hq.bot.mono (by omega)
    · unfold isCtx; rw [show (xs ++ [q]).map dq = xs.map dq ++ [dq q] by simp]; rfl
theorem c_isolate {k : Nat} {f left : List Int} {xs : List (Int × Int)} {found : List Iv} {r : List Iv × Option (Int × Int)} {K : Iv → Iv} (hf : f ≠ []) (hfl : f.length ≤ 8) (hs : SimpleOk f) (hr : SpAt (simpleS f) r) (hi : IsoR (simpleS f) [] r (left, xs, found))
    (hl : left.length ≤ 8) (hm : SmL 4000 left) (hx : ∀ x ∈ xs, Okq 1000 x) (hxl : xs.length ≤ 100) (hfo : found.length ≤ 100) (hk : ∀ i ∈ found, KeptR left xs i (K i)) (hko : ∀ i ∈ found, Okq 4000 (K i).1 ∧ Okq 4000 (K i).2) :
    Cf Γ (k + 9) (S "isolate") [il f] (.list ((sortedS (xs.map (fun x => (x, x)) ++ found.map K)).map di)) := by
  refine ⟨of_isolate (o := .ret _) (X.ok (X.skip (T.conv (c' := false) (T.cmp (E.name rfl) (E.lst (ds := il' []) L.nil (by simp)) (C.eqd (shaped_il f) (shaped_il []))) (by rw [eqv_nil]; simpa using hf))
    (X.swapF (ns := [S "left", S "exact"]) (.cons (.cons .nil)) rfl (M.d (E.call (L.cons (E.name rfl) L.nil) (c_simple_part hs) rfl) (M.o (O.lst (ds := ([] : List (Int × Int)).map dq) L.nil (by simp)) M.nil)) (by walk_at "sts") fun T hT => ?_)))⟩
  match T, hT with
  | [ad], _ =>
    refine X.unpack (e_split hr rfl) (A.tup (AL.cons (A.name (by walk_at "st")) (AL.cons (A.name (by walk_at "st")) AL.nil))) (X.while (W.has (w_iso (k := k) (f := f) (ad := ad) hi) has_refl) fun σ2 hσ => X.has ?_ hσ)
    show X Γ _ _ _ (isCtx f left xs (found, none) ad) _
    refine X.assign (E.conv (d' := .list ((xs.map (fun x => (x, x)) ++ found.map K).map di)) (E.bin (E.compMap (σc := []) xs dq (fun x => di (x, x)) (I.list (E.nameOwn rfl)) (by decide +kernel) (by walk_at "inner") (by omega) (fun x hx' => ⟨_, A.name (by walk_at "st"), El.some (E.tup (L.cons (E.name rfl) (L.cons (E.name rfl) L.nil)) (by walk_at "side")) has_nil⟩))
      (E.compMap (σc := [(S "left", .d (il left)), (S "exact", .d (.list (xs.map dq)))]) found di (fun i => di (K i)) (I.list (E.name rfl)) (by decide +kernel) (by walk_at "inner") (by omega) (fun i hi' => ⟨_, A.name (by walk_at "st"), El.some (E.call (L.cons (E.name rfl) (L.cons (E.name rfl) (L.cons (E.name rfl) L.nil))) (c_kept_off (m := 4000) (by omega) hm (by omega) hx (by omega) (hk i hi')) rfl) (has_take 2 rfl)⟩)) (B.addL (by simp; omega))) (by simp [Function.comp_def])) (by walk_at "st") ?_
    refine X.ret (E.call (L.cons (E.name rfl) L.nil) (c_sorted (by simp; omega) fun p hp => ?_) rfl)
    rcases List.mem_append.mp hp with hp | hp
    · obtain ⟨x, hx', rfl⟩ := List.mem_map.mp hp
      exact ⟨(hx x hx').mono (by omega), (hx x hx').mono (by omega)⟩
    · obtain ⟨i, hi', rfl⟩ := List.mem_map.mp hp
      exact hko i hi'
end

section
open PySem PySem.W PyProof.Rows PySem.Calls
set_option maxRecDepth 100000
variable {Γ : Gl}


theorem E.dget {sc : Scope} {k : Nat} {σ : Ctx} {x key : Str} {px pos kp : Pos} {a : Addr} {gr mx i : Int} {kn : Nat} (hx : σ.lookup x = some (.own a (.dr Γ.w gr mx))) (hk : (key = Str.ofString "great" ∧ i = gr) ∨ (key = Str.ofString "mixed" ∧ i = mx)) (hd : (x == ("__debug__" : Str)) = false := by decide +kernel) :
    E Γ sc k (.Subscript (.Name x px) (.Constant (.str key) kn kp) pos) σ (.int i) σ := ⟨EvE.dget hx hk hd⟩
noncomputable def takeS (many : Int) (st : Int × Int) : Int × (Int × Int) :=
  if st.1 > 0 then (st.1.fmod many, (st.1.fdiv many, st.2))
  else ((((st.2 * 48271 + 11).fmod 2147483647).fdiv 16).fmod many, (st.1, (st.2 * 48271 + 11).fmod 2147483647))
theorem c_take {k : Nat} {many : Int} {st : Int × Int} (h0 : 0 < many) (h1 : many < 1000) : Cd Γ (k + 1) (S "_law_take") st.1 st.2 [.int many] (.int (takeS many st).1) (takeS many st).2.1 (takeS many st).2.2 := by
  have hlog : many.natAbs.log2 < 9000 := (show Sm 10 many by unfold Sm; omega).log (by omega)
  have hlog2 : (16 : Int).natAbs.log2 < 9000 := by decide +kernel
  refine ⟨of_law_take fun ad => X.ok ?_⟩
  by_cases h : st.1 > 0
  · have e : takeS many st = (st.1.fmod many, (st.1.fdiv many, st.2)) := by unfold takeS; rw [if_pos h]
    rw [e]
    exact X.iteRN (T.conv (c' := true) (T.cmp (E.dget rfl (.inl ⟨rfl, rfl⟩)) E.int C.gt) (by simpa using h)) (X.unpack (E.tup (L.cons (E.bin (E.dget rfl (.inl ⟨rfl, rfl⟩)) (E.name rfl) (B.mod (by omega))) (L.cons (E.bin (E.dget rfl (.inl ⟨rfl, rfl⟩)) (E.name rfl) (B.div (by omega) hlog)) L.nil)) (by simp)) (A.tup (AL.cons (A.name (by walk_at "st")) (AL.cons (A.dset rfl (.inl ⟨rfl, rfl, rfl⟩)) AL.nil))) (X.retN (E.name rfl) rfl))
  · have e : takeS many st = ((((st.2 * 48271 + 11).fmod 2147483647).fdiv 16).fmod many, (st.1, (st.2 * 48271 + 11).fmod 2147483647)) := by unfold takeS; rw [if_neg h]
    rw [e]
    exact X.skip (T.conv (c' := false) (T.cmp (E.dget rfl (.inl ⟨rfl, rfl⟩)) E.int C.gt) (by simp; omega)) (X.dset (E.bin (E.bin (E.bin (E.dget rfl (.inr ⟨rfl, rfl⟩)) E.int (B.mul (IntMulOk.of_right (by decide +kernel)))) E.int B.add) E.int (B.mod (by decide))) rfl (.inr ⟨rfl, rfl, rfl⟩)
      (X.retN (E.bin (E.bin (E.dget rfl (.inr ⟨rfl, rfl⟩)) E.int (B.div (by decide) hlog2)) (E.name rfl) (B.mod (by omega))) rfl))
theorem c_law_draws {k : Nat} {script : List Int} (hs : script.length ≤ 100) : ∃ g m, CallO Γ (k + 1) (S "_law_draws") [il script] (.dr Γ.w g m) := by
  have key : ∀ l : List Int, ∃ m : Nat → Int, m 0 = 7 ∧ ∀ i c, l[i]? = some c → m (i + 1) = (m i * 131 + c.natAbs + 17).fmod 2147483647 := fun l =>
    ⟨fun i => (l.take i).foldl (fun m c => (m * 131 + c.natAbs + 17).fmod 2147483647) 7, rfl, fun i c h => by simp only [List.take_add_one, h, List.foldl_append]; rfl⟩
  obtain ⟨m, m0, ms⟩ := key (script.take 24)
  refine ⟨(((script.take 24).filter fun c => decide ((10 : Int) ^ (9 : Int).toNat < c.natAbs)).map fun c => (c.natAbs : Int)).sum, m (script.take 24).length, of_law_draws (X.ok (X.assign E.int (by walk_at "st") ?_))⟩
  refine X.forH (fun i => [(S "script", .d (il script)), (S "mixed_here", .d (.int (m i)))]) (I.conv (ds' := il' (script.take 24)) (I.list (E.upto (E.name rfl) E.int (by walk_at "side") (by walk_at "side"))) (by rw [← List.map_take]; rfl)) (by show Ctx.has [(S "script", .d (il script)), (S "mixed_here", .d (.int 7))] [(S "script", .d (il script)), (S "mixed_here", .d (.int (m 0)))]; rw [m0]; exact has_refl) (fun i d hd => ?_) ?_
  · obtain ⟨c, hc, rfl⟩ := map_get hd
    refine ⟨_, A.name (by walk_at "st"), X.assign (E.bin (E.bin (E.bin (E.bin (E.name rfl) E.int (B.mul (IntMulOk.of_right (by decide +kernel)))) (E.conv (d' := .int (c.natAbs : Int)) (E.bcall b_abs (L.cons (E.name rfl) L.nil) (by walk_at "bi") rfl) (by rw [abs_if])) B.add) E.int B.add) E.int (B.mod (by decide))) (by walk_at "st") (X.done (has_take 2 ?_))⟩
    rw [ms i c hc]; rfl
  · have e : (il' (script.take 24)).length = (script.take 24).length := by simp
    rw [e]
    refine X.retO ⟨EvO.dict (E.ok (E.bcall b_sum (L.cons (E.conv (d' := il (((script.take 24).filter fun c => decide ((10 : Int) ^ (9 : Int).toNat < c.natAbs)).map fun c => (c.natAbs : Int))) (E.compFilter (σc := []) (script.take 24) .int (fun c => .int (if c < 0 then -c else c)) (fun c => decide ((10 : Int) ^ (9 : Int).toNat < c.natAbs)) (I.conv (I.list (E.upto (E.name rfl) E.int (by walk_at "side") (by walk_at "side"))) (by rw [← List.map_take]; rfl)) (by decide +kernel) (by walk_at "inner") (by rw [List.length_take]; omega) (fun c hc => ⟨_, A.name (by walk_at "st"), El.conv (El.test (c := decide ((10 : Int) ^ (9 : Int).toNat < (if c < 0 then -c else c))) (T.cmp (E.bcall b_abs (L.cons (E.name rfl) L.nil) (by walk_at "bi") rfl) (E.bin E.int E.int (B.pow (by decide) (by decide +kernel))) C.gt) (fun _ => (E.bcall b_abs (L.cons (E.name rfl) L.nil) (by walk_at "bi") rfl)) has_nil) (by rw [abs_if])⟩)) ?_) L.nil) F.sum rfl)) (E.ok (E.name rfl))⟩
    simp [abs_if, Function.comp_def]
inductive Rt where
  | rat (q : Int × Int)
  | root (s k : Int)
  deriving DecidableEq
noncomputable abbrev Rt.d : Rt → D
  | .rat q => .tup [.str (S "rat"), dq q]
  | .root s k => .tup [.str (S "root"), .int s, .int k]
noncomputable def ratLess (p q : Int × Int) : Bool := decide (p.1 * q.2 < q.1 * p.2)
noncomputable def above (x : Int × Int) : Rt → Bool
  | .rat q => ratLess q x
  | .root s k => if s > 0 then decide (0 < x.1) && decide (k * x.2 * x.2 < x.1 * x.1) else decide (x.1 ≥ 0) || decide (x.1 * x.1 < k * x.2 * x.2)
noncomputable def rootLess : Rt → Rt → Bool
  | .rat q, o => !above q o && decide (Rt.rat q ≠ o)
  | .root s k, .rat q => above q (.root s k)
  | .root s k, .root s' k' => decide (s * k < s' * k')
noncomputable def atMost (r : Rt) (x : Int × Int) : Bool := above x r || decide (r = .rat x)
theorem c_rat_less {k n : Nat} {p q : Int × Int} (hp : Okq n p) (hq : Okq n q) (hn : n ≤ 4000) : Cf Γ (k + 1) (S "_law_rat_less") [dq p, dq q] (.bool (ratLess p q)) :=
  ⟨of_law_rat_less (o := .ret _) (X.ok (X.ret (E.cmp (E.bin (E.sub (E.name rfl) E.int (by walk_at "get")) (E.sub (E.name rfl) E.int (by walk_at "get")) (B.mul (hp.top.ok hq.bot (by omega)))) (E.bin (E.sub (E.name rfl) E.int (by walk_at "get")) (E.sub (E.name rfl) E.int (by walk_at "get")) (B.mul (hq.top.ok hp.bot (by omega)))) C.lt)))⟩
noncomputable def Okr (n : Nat) : Rt → Prop
  | .rat q => Okq n q
  | .root s k => Sm n s ∧ Sm n k
theorem c_rat_above {k n : Nat} {x : Int × Int} {r : Rt} (hx : Okq n x) (hr : Okr n r) (hn : n ≤ 4000) : Cf Γ (k + 2) (S "_law_rat_above") [dq x, r.d] (.bool (above x r)) := by
  cases r with
  | rat q => exact ⟨of_law_rat_above (o := .ret _) (X.ok (X.iteR (T.conv (c' := true) (T.cmp (E.sub (E.name rfl) E.int (G.tup (ds := [.str (S "rat"), dq q]) rfl rfl (by simp))) E.str C.eqs) (by decide +kernel)) (X.ret (E.call (L.cons (E.sub (E.name rfl) E.int (G.tup (ds := [.str (S "rat"), dq q]) rfl rfl (by simp))) (L.cons (E.name rfl) L.nil)) (c_rat_less hr hx hn) rfl))))⟩
  | root s kk =>
    obtain ⟨h1, h2⟩ := hr
    have e1 : (S "root" == S "rat") = false := by decide +kernel
    have g0 : ∀ {kk'}, G Γ kk' (.tup [.str (S "root"), .int s, .int kk]) 0 (.str (S "root")) := G.tup rfl rfl (by simp)
    have g1 : ∀ {kk'}, G Γ kk' (.tup [.str (S "root"), .int s, .int kk]) 1 (.int s) := G.tup rfl rfl (by simp)
    have g2 : ∀ {kk'}, G Γ kk' (.tup [.str (S "root"), .int s, .int kk]) 2 (.int kk) := G.tup rfl rfl (by simp)
    have b1 := h2.mul hx.bot
    have m1 : IntMulOk x.1 x.1 := hx.top.ok hx.top (by omega)
    have m2 : IntMulOk kk x.2 := h2.ok hx.bot (by omega)
    have m3 : IntMulOk (kk * x.2) x.2 := b1.ok hx.bot (by omega)
    by_cases hs : s > 0
    · have e : above x (.root s kk) = (decide (0 < x.1) && decide (kk * x.2 * x.2 < x.1 * x.1)) := by show (if s > 0 then _ else _) = _; rw [if_pos hs]
      rw [e]
      exact ⟨of_law_rat_above (o := .ret _) (X.ok (X.skip (T.conv (c' := false) (T.cmp (E.sub (E.name rfl) E.int g0) E.str C.eqs) e1) (X.iteR (T.conv (c' := true) (T.cmp (E.sub (E.name rfl) E.int g1) E.int C.gt) (by simpa using hs)) (X.ret (E.and (E.cmp (E.sub (E.name rfl) E.int (by walk_at "get")) E.int C.gt) fun _ => (E.cmp (E.bin (E.sub (E.name rfl) E.int (by walk_at "get")) (E.sub (E.name rfl) E.int (by walk_at "get")) (B.mul m1)) (E.bin (E.bin (E.sub (E.name rfl) E.int g2) (E.sub (E.name rfl) E.int (by walk_at "get")) (B.mul m2)) (E.sub (E.name rfl) E.int (by walk_at "get")) (B.mul m3)) C.gt))))))⟩
    · have e : above x (.root s kk) = (decide (x.1 ≥ 0) || decide (x.1 * x.1 < kk * x.2 * x.2)) := by show (if s > 0 then _ else _) = _; rw [if_neg hs]
      rw [e]
      exact ⟨of_law_rat_above (o := .ret _) (X.ok (X.skip (T.conv (c' := false) (T.cmp (E.sub (E.name rfl) E.int g0) E.str C.eqs) e1) (X.skip (T.conv (c' := false) (T.cmp (E.sub (E.name rfl) E.int g1) E.int C.gt) (by simpa using hs)) (X.ret (E.or (E.cmp (E.sub (E.name rfl) E.int (by walk_at "get")) E.int C.ge) fun _ => (E.cmp (E.bin (E.sub (E.name rfl) E.int (by walk_at "get")) (E.sub (E.name rfl) E.int (by walk_at "get")) (B.mul m1)) (E.bin (E.bin (E.sub (E.name rfl) E.int g2) (E.sub (E.name rfl) E.int (by walk_at "get")) (B.mul m2)) (E.sub (E.name rfl) E.int (by walk_at "get")) (B.mul m3)) C.lt))))))⟩
theorem shaped_rt (r : Rt) : SeqAt.shaped r.d.py = true := by
  cases r with
  | rat q =>
    have : PyData.strOk (S "rat") = true := by decide +kernel
    simp [D.py, D.pyL, SeqAt.shaped, PyData.canLay0, PyData.canLayAll0, PyData.depth, PyData.depthAll, this]
  | root s k =>
    have : PyData.strOk (S "root") = true := by decide +kernel
    simp [D.py, D.pyL, SeqAt.shaped, PyData.canLay0, PyData.canLayAll0, PyData.depth, PyData.depthAll, this]
theorem eqv_rt (r r' : Rt) : PyData.eqv r.d.py r'.d.py = decide (r = r') := by
  have n1 : (S "rat" == S "root") = false := by decide +kernel
  have n2 : (S "root" == S "rat") = false := by decide +kernel
  cases r with
  | rat q =>
    cases r' with
    | rat q' =>
      obtain ⟨a, b⟩ := q; obtain ⟨c, d⟩ := q'
      simp only [D.py, D.pyL, PyData.eqv, PyData.eqvAll, Bool.and_true, beq_self_eq_true, Bool.true_and, Rt.rat.injEq, Prod.mk.injEq]
      by_cases h1 : a = c <;> by_cases h2 : b = d <;> simp [h1, h2]
    | root s k => simp [D.py, D.pyL, PyData.eqv, PyData.eqvAll, n1]
  | root s k =>
    cases r' with
    | rat q => simp [D.py, D.pyL, PyData.eqv, PyData.eqvAll, n2]
    | root s' k' =>
      simp only [D.py, D.pyL, PyData.eqv, PyData.eqvAll, Bool.and_true, beq_self_eq_true, Bool.true_and, Rt.root.injEq]
      by_cases h1 : s = s' <;> by_cases h2 : k = k' <;> simp [h1, h2]
theorem c_at_most {k n : Nat} {x : Int × Int} {r : Rt} (hx : Okq n x) (hr : Okr n r) (hn : n ≤ 4000) : Cf Γ (k + 3) (S "_law_at_most") [r.d, dq x] (.bool (atMost r x)) := by
  refine ⟨of_law_at_most (o := .ret _) (X.ok (X.ret (E.conv (d' := .bool (atMost r x)) (E.or (E.call (L.cons (E.name rfl) (L.cons (E.name rfl) L.nil)) (c_rat_above hx hr hn) rfl) fun _ => (E.cmp (E.name rfl) (E.tup (ds := [.str (S "rat"), dq x]) (L.cons E.str (L.cons (E.name rfl) L.nil)) (by simp)) (C.eqd (b := Rt.d (.rat x)) (shaped_rt _) (shaped_rt _)))) ?_)))⟩
  rw [eqv_rt]; rfl
theorem getR {k : Nat} {s kk : Int} : G Γ k (Rt.d (.root s kk)) 0 (.str (S "root")) ∧ G Γ k (Rt.d (.root s kk)) 1 (.int s) ∧ G Γ k (Rt.d (.root s kk)) 2 (.int kk) :=
  ⟨G.tup rfl rfl (by simp), G.tup rfl rfl (by simp), G.tup rfl rfl (by simp)⟩
theorem getQ {k : Nat} {q : Int × Int} : G Γ k (Rt.d (.rat q)) 0 (.str (S "rat")) ∧ G Γ k (Rt.d (.rat q)) 1 (dq q) :=
  ⟨G.tup (ds := [.str (S "rat"), dq q]) rfl rfl (by simp), G.tup (ds := [.str (S "rat"), dq q]) rfl rfl (by simp)⟩
theorem c_root_less {k n : Nat} {r r' : Rt} (hr : Okr n r) (hr' : Okr n r') (hn : n ≤ 4000) : Cf Γ (k + 3) (S "_law_root_less") [r.d, r'.d] (.bool (rootLess r r')) := by
  have e1 : (S "root" == S "rat") = false := by decide +kernel
  have e2 : (S "rat" == S "rat") = true := by decide +kernel
  cases r with
  | rat q =>
    refine ⟨of_law_root_less (o := .ret _) (X.ok (X.iteR (T.conv (c' := true) (T.cmp (E.sub (E.name rfl) E.int getQ.1) E.str C.eqs) e2) (X.ret (E.conv (d' := .bool (rootLess (.rat q) r')) (E.and (E.un (E.call (L.cons (E.sub (E.name rfl) E.int getQ.2) (L.cons (E.name rfl) L.nil)) (c_rat_above hr hr' hn) rfl) (U.not R.bool)) fun _ => (E.cmp (E.name rfl) (E.name rfl) (C.ned (shaped_rt _) (shaped_rt _)))) ?_))))⟩
    rw [eqv_rt]
    show D.bool (!above q r' && !decide (Rt.rat q = r')) = D.bool (!above q r' && decide (Rt.rat q ≠ r'))
    by_cases h : Rt.rat q = r' <;> simp [h]
  | root s kk =>
    cases r' with
    | rat q =>
      exact ⟨of_law_root_less (o := .ret _) (X.ok (X.skip (T.conv (c' := false) (T.cmp (E.sub (E.name rfl) E.int getR.1) E.str C.eqs) e1) (X.iteR (T.conv (c' := true) (T.cmp (E.sub (E.name rfl) E.int getQ.1) E.str C.eqs) e2) (X.ret (E.call (L.cons (E.sub (E.name rfl) E.int getQ.2) (L.cons (E.name rfl) L.nil)) (c_rat_above (r := .root s kk) hr' hr hn) rfl)))))⟩
    | root s' kk' =>
      exact ⟨of_law_root_less (o := .ret _) (X.ok (X.skip (T.conv (c' := false) (T.cmp (E.sub (E.name rfl) E.int getR.1) E.str C.eqs) e1) (X.skip (T.conv (c' := false) (T.cmp (E.sub (E.name rfl) E.int getR.1) E.str C.eqs) e1) (X.ret (E.cmp (E.bin (E.sub (E.name rfl) E.int getR.2.1) (E.sub (E.name rfl) E.int getR.2.2) (B.mul (hr.1.ok hr.2 (by omega)))) (E.bin (E.sub (E.name rfl) E.int getR.2.1) (E.sub (E.name rfl) E.int getR.2.2) (B.mul (hr'.1.ok hr'.2 (by omega)))) C.lt)))))⟩
noncomputable def counted (told : List Rt) (lo hi : Int × Int) : Int := ((told.filter fun r => !atMost r lo && atMost r hi).length : Nat)
theorem c_counted {k n : Nat} {told : List Rt} {lo hi : Int × Int} (hl : told.length ≤ 100) (ht : ∀ r ∈ told, Okr n r) (h1 : Okq n lo) (h2 : Okq n hi) (hn : n ≤ 4000) : Cf Γ (k + 4) (S "_law_counted") [.list (told.map Rt.d), dq lo, dq hi] (.int (counted told lo hi)) := by
  have hlen : (told.filter fun r => !atMost r lo && atMost r hi).length ≤ 100 := Nat.le_trans (List.length_filter_le _ _) hl
  refine ⟨of_law_counted (o := .ret _) (X.ok (X.ret (E.conv (d' := .int (counted told lo hi)) (E.bcall b_len (L.cons (E.compFilter (σc := [(S "low", .d (dq lo)), (S "high", .d (dq hi))]) told Rt.d (fun _ => .int 1) (fun r => !atMost r lo && atMost r hi) (I.list (E.name rfl)) (by decide +kernel) (by walk_at "inner") (by omega) (fun r hr => ⟨_, A.name (by walk_at "st"), El.test (T.and (T.not (T.value (E.call (L.cons (E.name rfl) (L.cons (E.name rfl) L.nil)) (c_at_most h1 (ht r hr) hn) rfl) R.bool)) fun _ => T.value (E.call (L.cons (E.name rfl) (L.cons (E.name rfl) L.nil)) (c_at_most h2 (ht r hr) hn) rfl) R.bool) (fun _ => E.int) (has_take 2 rfl)⟩)) L.nil) (F.len (by rw [List.length_map]; omega)) rfl) ?_)))⟩
  unfold counted; rw [List.length_map]
noncomputable def low1 (p : Int × Int) (d : Int) : Int × Int := if p.1.fmod d = 0 ∧ p.2.fmod d = 0 then (p.1.fdiv d, p.2.fdiv d) else p
noncomputable def lowest (t b : Int) : Int × Int := low1 (low1 (low1 (low1 (t, b) 2) 3) 2) 5
theorem c_lowest {k : Nat} {t b : Int} : Cf Γ (k + 1) (S "_law_lowest") [.int t, .int b] (dq (lowest t b)) := by
  refine ⟨of_law_lowest (o := .ret _) (X.ok (X.forL ([2, 3, 2, 5] : List Int) .int (fun l => [(S "top", .d (.int ((([2, 3, 2, 5] : List Int).take (4 - l.length)).foldl low1 (t, b)).1)), (S "bottom", .d (.int ((([2, 3, 2, 5] : List Int).take (4 - l.length)).foldl low1 (t, b)).2))]) (I.tup (E.tup (ds := [.int 2, .int 3, .int 2, .int 5]) (L.cons E.int (L.cons E.int (L.cons E.int (L.cons E.int L.nil)))) (by simp))) has_refl (fun d l hd => ?_) (X.ret (E.tup (L.cons (E.name rfl) (L.cons (E.name rfl) L.nil)) (by walk_at "side")))))⟩
  obtain ⟨pre, hpre⟩ := hd
  have hlen := congrArg List.length hpre
  simp only [List.length_cons, List.length_append, List.length_nil] at hlen
  have e1 : ([2, 3, 2, 5] : List Int).take (4 - (d :: l).length) = pre := by rw [hpre, List.length_cons, show 4 - (l.length + 1) = pre.length by omega, List.take_left]
  have e2 : ([2, 3, 2, 5] : List Int).take (4 - l.length) = pre ++ [d] := by rw [hpre, show 4 - l.length = pre.length + 1 by omega, List.take_length_add_append]; rfl
  rw [e1, e2, List.foldl_append]
  show ∃ σ3, A Γ _ _ _ _ _ σ3 ∧ X Γ _ _ _ σ3 (.next fun σ => σ.has [(S "top", .d (.int (low1 (pre.foldl low1 (t, b)) d).1)), (S "bottom", .d (.int (low1 (pre.foldl low1 (t, b)) d).2))])
  generalize pre.foldl low1 (t, b) = p
  have hd0 : d ≠ 0 ∧ Sm 10 d := by
    have : d ∈ ([2, 3, 2, 5] : List Int) := by rw [hpre]; simp
    simp only [List.mem_cons, List.not_mem_nil, or_false] at this
    rcases this with rfl | rfl | rfl | rfl <;> exact ⟨by decide, by unfold Sm; decide⟩
  have hlog := hd0.2.log (by omega)
  refine ⟨_, A.name (by walk_at "st"), ?_⟩
  by_cases h : p.1.fmod d = 0 ∧ p.2.fmod d = 0
  · have e : low1 p d = (p.1.fdiv d, p.2.fdiv d) := by unfold low1; rw [if_pos h]
    rw [e]
    exact X.iteT (T.conv (c' := true) (T.and (T.cmp (E.bin (E.name rfl) (E.name rfl) (B.mod hd0.1)) E.int C.eq) fun _ => (T.cmp (E.bin (E.name rfl) (E.name rfl) (B.mod hd0.1)) E.int C.eq)) (by simp [h.1, h.2])) (X.swapR (ns := [S "top", S "bottom"]) rfl (M.d (E.bin (E.name rfl) (E.name rfl) (B.div hd0.1 hlog)) (M.d (E.bin (E.name rfl) (E.name rfl) (B.div hd0.1 hlog)) M.nil)) (by walk_at "sts") (by decide +kernel) fun _ _ => X.nil) (X.done (has_take 2 rfl))
  · have e : low1 p d = p := by unfold low1; rw [if_neg h]
    rw [e]
    exact X.skip (T.conv (c' := false) (T.and (T.cmp (E.bin (E.name rfl) (E.name rfl) (B.mod hd0.1)) E.int C.eq) fun _ => (T.cmp (E.bin (E.name rfl) (E.name rfl) (B.mod hd0.1)) E.int C.eq)) (by simpa using h)) (X.done (has_take 2 rfl))
end

section
open PySem PySem.W PyProof.Rows PySem.Calls
set_option maxRecDepth 100000
variable {Γ : Gl}


noncomputable def mulIn (i : Nat) (c : Int) : Nat → List Int → List Int → List Int
  | _, [], f => f
  | j, d :: ds, f => mulIn i c (j + 1) ds (f.set (i + j) (f.getD (i + j) 0 + c * d))
noncomputable def mulOut (b : List Int) : Nat → List Int → List Int → List Int
  | _, [], f => f
  | i, c :: cs, f => mulOut b (i + 1) cs (mulIn i c 0 b f)
noncomputable def mulS (a b : List Int) : List Int := if a = [] ∨ b = [] then [] else mulOut b 0 a (List.replicate (a.length + b.length - 1) 0)
theorem mulIn_snoc (i : Nat) (c d : Int) : ∀ (ds : List Int) (j : Nat) (f : List Int), mulIn i c j (ds ++ [d]) f = (mulIn i c j ds f).set (i + (j + ds.length)) ((mulIn i c j ds f).getD (i + (j + ds.length)) 0 + c * d)
  | [], j, f => by simp [mulIn]
  | e :: ds, j, f => by
    rw [List.cons_append, mulIn, mulIn, mulIn_snoc i c d ds (j + 1) _, show j + 1 + ds.length = j + (e :: ds).length by simp; omega]
theorem mulOut_snoc (b : List Int) (c : Int) : ∀ (cs : List Int) (i : Nat) (f : List Int), mulOut b i (cs ++ [c]) f = mulIn (i + cs.length) c 0 b (mulOut b i cs f)
  | [], i, f => by simp [mulOut]
  | e :: cs, i, f => by rw [List.cons_append, mulOut, mulOut, mulOut_snoc b c cs (i + 1) _, show i + 1 + cs.length = i + (e :: cs).length by simp; omega]
theorem mulIn_len (i : Nat) (c : Int) : ∀ (ds : List Int) (j : Nat) (f : List Int), (mulIn i c j ds f).length = f.length
  | [], j, f => rfl
  | d :: ds, j, f => by rw [mulIn, mulIn_len i c ds]; simp
theorem mulOut_len (b : List Int) : ∀ (cs : List Int) (i : Nat) (f : List Int), (mulOut b i cs f).length = f.length
  | [], i, f => rfl
  | c :: cs, i, f => by rw [mulOut, mulOut_len b cs, mulIn_len]
theorem mulS_len {a b : List Int} (ha : a ≠ []) (hb : b ≠ []) : (mulS a b).length = a.length + b.length - 1 := by
  unfold mulS; rw [if_neg (by simp [ha, hb]), mulOut_len, List.length_replicate]
theorem E.subOwnI {sc : Scope} {k : Nat} {σ σ1 : Ctx} {x : Str} {px pos : Pos} {ix : Expr} {a : Addr} {l : List Int} {i : Int} (hx : σ.lookup x = some (.own a (.list (il' l)))) (h2 : E Γ sc k ix σ (.int i) σ1) (hx1 : σ1.lookup x = some (.own a (.list (il' l))))
    (h0 : 0 ≤ i) (h : i < l.length) (hl : l.length ≤ 1000) (hs : NoSlice ix := by intro _ _; with_unfolding_all rfl) (hdb : (x == ("__debug__" : Str)) = false := by decide +kernel) : E Γ sc k (.Subscript (.Name x px) ix pos) σ (.int (l.getD i.toNat 0)) σ1 :=
  E.subOwn hx h2 hx1 (j := i.toNat) (by rw [List.length_map]; exact idx_nn h0 h) (by simp [show i.toNat < l.length by omega]) (by simpa using hl) hs hdb
theorem take_succ {α : Type} {l : List α} {i : Nat} {c : α} (h : l[i]? = some c) : l.take (i + 1) = l.take i ++ [c] := by rw [List.take_add_one, h]; rfl
theorem c_law_mul {k n m : Nat} {a b : List Int} (la : a.length ≤ 50) (lb : b.length ≤ 50) (ha : SmL n a) (hb : SmL m b) (hn : n + m ≤ 2 ^ 20) : Cf Γ (k + 1) (S "_law_mul") [il a, il b] (il (mulS a b)) := by
  by_cases h : a = [] ∨ b = []
  · have e : mulS a b = [] := by unfold mulS; rw [if_pos h]
    rw [e]
    refine ⟨of_law_mul (o := .ret _) (X.ok (X.iteR (T.conv (c' := true) (T.or (T.cmp (E.name rfl) (E.lst (ds := il' []) L.nil (by simp)) (C.eqd (shaped_il a) (shaped_il []))) fun _ => (T.cmp (E.name rfl) (E.lst (ds := il' []) L.nil (by simp)) (C.eqd (shaped_il b) (shaped_il [])))) ?_) (X.ret (E.lst (ds := il' []) L.nil (by simp)))))⟩
    rw [eqv_nil, eqv_nil]; simpa using h
  · have e : mulS a b = mulOut b 0 a (List.replicate (a.length + b.length - 1) 0) := by unfold mulS; rw [if_neg h]
    have ha0 : a ≠ [] := fun e => h (.inl e)
    have hb0 : b ≠ [] := fun e => h (.inr e)
    have la0 := List.length_pos_iff.mpr ha0
    have lb0 := List.length_pos_iff.mpr hb0
    rw [e]
    refine ⟨of_law_mul (o := .ret _) (X.ok (X.skip (T.conv (c' := false) (T.or (T.cmp (E.name rfl) (E.lst (ds := il' []) L.nil (by simp)) (C.eqd (shaped_il a) (shaped_il []))) fun _ => (T.cmp (E.name rfl) (E.lst (ds := il' []) L.nil (by simp)) (C.eqd (shaped_il b) (shaped_il [])))) ?_) (X.assignO (O.rep (d := .int 0) (n := ((a.length + b.length - 1 : Nat) : Int)) (E.lst (L.cons E.int L.nil) (by walk_at "side")) (E.conv (E.bin (E.bin (E.bcall b_len (L.cons (E.name rfl) L.nil) (by walk_at "bi") rfl) (E.bcall b_len (L.cons (E.name rfl) L.nil) (by walk_at "bi") rfl) (by walk_at "op")) E.int (by walk_at "op")) ?_) (by omega) (by omega)) (by walk_at "st") fun ad => ?_)))⟩
    · rw [eqv_nil, eqv_nil]; simpa using h
    · simp only [List.length_map]; congr 1; omega
    · refine X.forH (fun i => [(S "one", .d (il a)), (S "other", .d (il b)), (S "found", .own ad (.list (il' (mulOut b 0 (a.take i) (List.replicate (a.length + b.length - 1) 0)))))]) (I.enum (E.name rfl) rfl) ?_ (fun i d hd => ?_) ?_
      · rw [Int.toNat_natCast, show List.replicate (a.length + b.length - 1) (D.int 0) = il' (List.replicate (a.length + b.length - 1) 0) by unfold il'; rw [List.map_replicate]]
        exact has_refl
      · obtain ⟨d', h1, rfl⟩ := enumD_get hd
        obtain ⟨c, hc, rfl⟩ := map_get h1
        rw [Nat.zero_add]
        have hi : i < a.length := (List.getElem?_eq_some_iff.mp hc).1
        have hcs := ha c (List.mem_of_getElem? hc)
        have flen : (mulOut b 0 (a.take i) (List.replicate (a.length + b.length - 1) 0)).length = a.length + b.length - 1 := by rw [mulOut_len, List.length_replicate]
        rw [take_succ hc, mulOut_snoc, List.length_take, Nat.zero_add, show min i a.length = i by omega]
        generalize mulOut b 0 (a.take i) (List.replicate (a.length + b.length - 1) 0) = f at flen
        refine ⟨_, A.tup (AL.cons (A.name (by walk_at "st")) (AL.cons (A.name (by walk_at "st")) AL.nil)), X.forH (fun j => [(S "one", .d (il a)), (S "other", .d (il b)), (S "found", .own ad (.list (il' (mulIn i c 0 (b.take j) f)))), (S "at", .d (.int (i : Nat))), (S "left", .d (.int c))]) (I.enum (E.name rfl) rfl) has_refl (fun j d hd => ?_) ?_⟩
        · obtain ⟨d', h1, rfl⟩ := enumD_get hd
          obtain ⟨e, he, rfl⟩ := map_get h1
          rw [Nat.zero_add]
          have hj : j < b.length := (List.getElem?_eq_some_iff.mp he).1
          have hes := hb e (List.mem_of_getElem? he)
          have glen : (mulIn i c 0 (b.take j) f).length = a.length + b.length - 1 := by rw [mulIn_len, flen]
          rw [take_succ he, mulIn_snoc, List.length_take, Nat.zero_add, show min j b.length = j by omega]
          generalize mulIn i c 0 (b.take j) f = g at glen
          refine ⟨_, A.tup (AL.cons (A.name (by walk_at "st")) (AL.cons (A.name (by walk_at "st")) AL.nil)), X.setItem (E.bin (E.subOwnI rfl (E.bin (E.name rfl) (E.name rfl) (by walk_at "op")) rfl (by omega) (by omega) (by omega)) (E.bin (E.name rfl) (E.name rfl) (B.mul (hcs.ok hes hn))) B.add) rfl (E.bin (E.name rfl) (E.name rfl) (by walk_at "op")) rfl (by simp; omega) (by omega) (by simp; omega) (X.done (has_take 5 ?_))⟩
          have e1 : (((i : Nat) : Int) + ((j : Nat) : Int)).toNat = i + j := by omega
          rw [e1, show il' (g.set (i + j) (g.getD (i + j) 0 + c * e)) = (il' g).set (i + j) (.int (g.getD (i + j) 0 + c * e)) by unfold il'; rw [List.map_set]]
          rfl
        · rw [enumD_len, List.length_map, List.take_length]
          exact X.done (has_take 3 rfl)
      · rw [enumD_len, List.length_map, List.take_length]
        exact X.ret (σ1 := []) ((E.nameOwn rfl).out has_nil)
end

section
open PySem PySem.W PyProof.Rows PySem.Calls
set_option maxRecDepth 100000
variable {Γ : Gl}


noncomputable def BdL (m : Nat) (l : List Int) : Prop := ∀ i, (l.getD i 0).natAbs ≤ m
theorem bd_set {b m : Nat} {f : List Int} {k : Nat} {v : Int} (hf : BdL b f) (hv : v.natAbs ≤ m) : BdL (b + m) (f.set k (f.getD k 0 + v)) := fun t => by
  rw [List.getD_eq_getElem?_getD, List.getElem?_set]
  split
  · split
    · exact Nat.le_trans (Int.natAbs_add_le _ _) (Nat.add_le_add (hf k) hv)
    · exact Nat.zero_le _
  · rw [← List.getD_eq_getElem?_getD]; exact Nat.le_trans (hf t) (Nat.le_add_right _ _)
theorem mulIn_bd {i : Nat} {c : Int} {m : Nat} : ∀ (ds : List Int) (j : Nat) (f : List Int) (b : Nat), (∀ d ∈ ds, (c * d).natAbs ≤ m) → BdL b f → BdL (b + ds.length * m) (mulIn i c j ds f)
  | [], j, f, b, h, hf => by simpa [mulIn] using hf
  | d :: ds, j, f, b, h, hf => by
    rw [mulIn]
    have := mulIn_bd (i := i) (c := c) ds (j + 1) _ (b + m) (fun x hx => h x (.tail _ hx)) (bd_set (k := i + j) hf (h d (.head _)))
    rw [List.length_cons, Nat.add_mul, Nat.one_mul]
    rwa [show b + (ds.length * m + m) = b + m + ds.length * m by rw [Nat.add_comm (ds.length * m), Nat.add_assoc]]
theorem mulOut_bd {b : List Int} {m : Nat} : ∀ (cs : List Int) (i : Nat) (f : List Int) (e : Nat), (∀ c ∈ cs, ∀ d ∈ b, (c * d).natAbs ≤ m) → BdL e f → BdL (e + cs.length * (b.length * m)) (mulOut b i cs f)
  | [], i, f, e, h, hf => by simpa [mulOut] using hf
  | c :: cs, i, f, e, h, hf => by
    rw [mulOut]
    have := mulOut_bd (b := b) cs (i + 1) _ _ (fun x hx => h x (.tail _ hx)) (mulIn_bd (i := i) (c := c) b 0 f e (h c (.head _)) hf)
    rw [List.length_cons, Nat.add_mul, Nat.one_mul]
    rwa [show e + (cs.length * (b.length * m) + b.length * m) = e + b.length * m + cs.length * (b.length * m) by omega]
theorem mulS_sm {n m : Nat} {a b : List Int} (ha : SmL n a) (hb : SmL m b) (hl : a.length * b.length ≤ 2 ^ 10) : SmL (n + m + 10) (mulS a b) := by
  unfold mulS
  split
  · exact fun _ h => nomatch h
  · refine SmL.of_getD fun i => ?_
    have h0 : BdL 0 (List.replicate (a.length + b.length - 1) 0) := fun t => by rw [List.getD_eq_getElem?_getD, List.getElem?_replicate]; split <;> simp
    have h1 := mulOut_bd (b := b) (m := 2 ^ (n + m) - 1) a 0 _ 0 (fun c hc d hd => by have h2 : Sm (n + m) (c * d) := (ha c hc).mul (hb d hd); unfold Sm at h2; omega) h0 i
    unfold Sm
    have h3 : a.length * (b.length * (2 ^ (n + m) - 1)) ≤ 2 ^ 10 * (2 ^ (n + m) - 1) := by rw [← Nat.mul_assoc]; exact Nat.mul_le_mul_right _ hl
    have h4 := Nat.two_pow_pos (n + m)
    have h5 : 2 ^ 10 * (2 ^ (n + m) - 1) < 2 ^ 10 * 2 ^ (n + m) := (Nat.mul_lt_mul_left (by decide)).mpr (by omega)
    rw [Nat.pow_add (2) (n + m) 10, Nat.mul_comm (2 ^ (n + m))]
    omega
noncomputable abbrev DS := Int × Int
theorem takeS_range {many : Int} (h : 0 < many) (st : DS) : 0 ≤ (takeS many st).1 ∧ (takeS many st).1 < many := by
  unfold takeS
  split
  · exact ⟨Int.fmod_nonneg_of_pos _ h, Int.fmod_lt_of_pos _ h⟩
  · exact ⟨Int.fmod_nonneg_of_pos _ h, Int.fmod_lt_of_pos _ h⟩
inductive Fa where
  | lin (q : Int × Int)
  | sq (k : Int)
  | no (c d : Int)
noncomputable def facS : Fa → List Int
  | .lin q => [-q.1, q.2]
  | .sq k => [-k, 0, 1]
  | .no c d => [c, d, 1]
noncomputable def rootsS : Fa → List Rt
  | .lin q => [.rat q]
  | .sq k => [.root (-1) k, .root 1 k]
  | .no _ _ => []
noncomputable def redS (t b : Int) : Int × Int := match ([2, 3] : List Int).filter (fun o => t.fmod o == 0 && b.fmod o == 0) with
  | [] => (t, b)
  | o :: _ => (t.fdiv o, b.fdiv o)
noncomputable def faS (form : Int) (st : DS) : Fa × DS :=
  if form < 2 then (.lin (redS ((takeS 9 (takeS 3 st).2).1 - 4) (1 + (takeS 3 st).1)), (takeS 9 (takeS 3 st).2).2)
  else if form = 2 then (.sq (([2, 3, 5, 6, 7] : List Int).getD (takeS 5 st).1.toNat 0), (takeS 5 st).2)
  else (.no (1 + (takeS 3 st).1) ((takeS 3 (takeS 3 st).2).1 - 1), (takeS 3 (takeS 3 st).2).2)
noncomputable def turnS (st : DS) : (Fa × Bool) × DS :=
  (((faS (takeS 4 st).1 (takeS 4 st).2).1, (takeS 3 (faS (takeS 4 st).1 (takeS 4 st).2).2).1 == 0 && decide ((takeS 4 st).1 < 2)), (takeS 3 (faS (takeS 4 st).1 (takeS 4 st).2).2).2)
noncomputable def turnsS : Nat → DS → List (Fa × Bool) × DS
  | 0, st => ([], st)
  | n + 1, st => ((turnsS n st).1 ++ [(turnS (turnsS n st).2).1], (turnS (turnsS n st).2).2)
noncomputable def mulFa (p : List Int) (fb : Fa × Bool) : List Int := if fb.2 = true then mulS (mulS p (facS fb.1)) (facS fb.1) else mulS p (facS fb.1)
noncomputable def insAtR (told : List Rt) (one : Rt) : Nat := (told.filter fun o => rootLess o one).length
noncomputable def insR (told : List Rt) (one : Rt) : List Rt := if one ∈ told then told else told.take (insAtR told one) ++ one :: told.drop (insAtR told one)
noncomputable def polyOf (c : Int) (fs : List (Fa × Bool)) : List Int := fs.foldl mulFa [c]
noncomputable def rootsOf (fs : List (Fa × Bool)) : List Rt := fs.foldl (fun told fb => (rootsS fb.1).foldl insR told) []
noncomputable def FaOk : Fa → Prop
  | .lin q => 0 < q.2 ∧ q.2 ≤ 3 ∧ -4 ≤ q.1 ∧ q.1 ≤ 4
  | .sq k => k = 2 ∨ k = 3 ∨ k = 5 ∨ k = 6 ∨ k = 7
  | .no c d => 1 ≤ c ∧ c ≤ 3 ∧ -1 ≤ d ∧ d ≤ 1
theorem redS_ok {t b : Int} (h1 : -4 ≤ t) (h2 : t ≤ 4) (h3 : 1 ≤ b) (h4 : b ≤ 3) : FaOk (.lin (redS t b)) := by
  have key : ∀ t ∈ ([-4, -3, -2, -1, 0, 1, 2, 3, 4] : List Int), ∀ b ∈ ([1, 2, 3] : List Int), 0 < (redS t b).2 ∧ (redS t b).2 ≤ 3 ∧ -4 ≤ (redS t b).1 ∧ (redS t b).1 ≤ 4 := by decide +kernel
  exact key t (by simp; omega) b (by simp; omega)
theorem faS_ok {form : Int} (h0 : 0 ≤ form) (st : DS) : FaOk (faS form st).1 := by
  unfold faS
  split
  · have h1 := takeS_range (many := 3) (by decide) st
    have h2 := takeS_range (many := 9) (by decide) (takeS 3 st).2
    exact redS_ok (by omega) (by omega) (by omega) (by omega)
  · split
    · have h1 := takeS_range (many := 5) (by decide) st
      generalize (takeS 5 st).1 = i at h1
      have : i = 0 ∨ i = 1 ∨ i = 2 ∨ i = 3 ∨ i = 4 := by omega
      rcases this with rfl | rfl | rfl | rfl | rfl <;> simp [FaOk]
    · have h1 := takeS_range (many := 3) (by decide) st
      have h2 := takeS_range (many := 3) (by decide) (takeS 3 st).2
      exact ⟨by omega, by omega, by omega, by omega⟩
theorem turnS_ok (st : DS) : FaOk (turnS st).1.1 := faS_ok (takeS_range (by decide) st).1 _
theorem turnsS_ok : ∀ (n : Nat) (st : DS), (turnsS n st).1.length = n ∧ ∀ fb ∈ (turnsS n st).1, FaOk fb.1
  | 0, st => ⟨rfl, fun _ h => nomatch h⟩
  | n + 1, st => by
    obtain ⟨h1, h2⟩ := turnsS_ok n st
    refine ⟨by simp [turnsS, h1], fun fb hfb => ?_⟩
    rcases List.mem_append.mp hfb with h | h
    · exact h2 fb h
    · rw [List.mem_singleton.mp h]; exact turnS_ok _
theorem facS_ok {fa : Fa} (h : FaOk fa) : SmL 4 (facS fa) ∧ (facS fa).length ≤ 3 ∧ 1 ≤ (facS fa).length := by
  have sm : ∀ c : Int, -8 ≤ c → c ≤ 8 → Sm 4 c := fun c h1 h2 => by unfold Sm; omega
  cases fa with
  | lin q => obtain ⟨h1, h2, h3, h4⟩ := h; exact ⟨by intro c hc; simp [facS] at hc; rcases hc with rfl | rfl <;> exact sm _ (by omega) (by omega), by simp [facS], by simp [facS]⟩
  | sq k => exact ⟨by intro c hc; simp [facS] at hc; rcases hc with rfl | rfl | rfl <;> (rcases h with h | h | h | h | h <;> exact sm _ (by omega) (by omega)), by simp [facS], by simp [facS]⟩
  | no c d => obtain ⟨h1, h2, h3, h4⟩ := h; exact ⟨by intro x hx; simp [facS] at hx; rcases hx with rfl | rfl | rfl <;> exact sm _ (by omega) (by omega), by simp [facS], by simp [facS]⟩
theorem mulS_lenle {a b : List Int} : (mulS a b).length ≤ a.length + b.length - 1 ∨ mulS a b = [] := by
  by_cases h : a = [] ∨ b = []
  · exact .inr (by unfold mulS; rw [if_pos h])
  · exact .inl (by rw [mulS_len (fun e => h (.inl e)) (fun e => h (.inr e))]; exact Nat.le_refl _)
theorem mulS_step {n l : Nat} {p : List Int} {fa : Fa} (h : FaOk fa) (h1 : SmL n p) (h2 : p.length ≤ l) (hl : l ≤ 30) (hl0 : 1 ≤ l) : SmL (n + 14) (mulS p (facS fa)) ∧ (mulS p (facS fa)).length ≤ l + 2 := by
  obtain ⟨f1, f2, f3⟩ := facS_ok h
  refine ⟨mulS_sm h1 f1 ?_, ?_⟩
  · exact Nat.le_trans (Nat.mul_le_mul (show p.length ≤ 30 by omega) f2) (by decide)
  · rcases mulS_lenle (a := p) (b := facS fa) with h | h
    · omega
    · rw [h]; simp
theorem mulFa_step {n l : Nat} {p : List Int} {fb : Fa × Bool} (h : FaOk fb.1) (h1 : SmL n p) (h2 : p.length ≤ l) (hl : l ≤ 28) (hl0 : 1 ≤ l) : SmL (n + 28) (mulFa p fb) ∧ (mulFa p fb).length ≤ l + 4 := by
  obtain ⟨a1, a2⟩ := mulS_step h h1 h2 (by omega) hl0
  unfold mulFa
  split
  · obtain ⟨b1, b2⟩ := mulS_step h a1 a2 (by omega) (by omega)
    exact ⟨b1, by omega⟩
  · exact ⟨a1.mono (by omega), by omega⟩
theorem polyOf_ok {c : Int} (hc : Sm 4 c) : ∀ (fs : List (Fa × Bool)), fs.length ≤ 5 → (∀ fb ∈ fs, FaOk fb.1) → SmL (4 + 28 * fs.length) (polyOf c fs) ∧ (polyOf c fs).length ≤ 1 + 4 * fs.length := by
  intro fs
  suffices key : ∀ r : List (Fa × Bool), r.reverse.length ≤ 5 → (∀ fb ∈ r.reverse, FaOk fb.1) → SmL (4 + 28 * r.reverse.length) (polyOf c r.reverse) ∧ (polyOf c r.reverse).length ≤ 1 + 4 * r.reverse.length by
    have := key fs.reverse; rwa [List.reverse_reverse] at this
  intro r
  induction r with
  | nil => intro _ _; exact ⟨fun x hx => by rw [List.mem_singleton.mp hx]; exact hc, by simp [polyOf]⟩
  | cons fb r ih =>
    intro hl hok
    rw [List.reverse_cons] at hl hok ⊢
    rw [List.length_append, List.length_singleton] at hl ⊢
    obtain ⟨i1, i2⟩ := ih (by omega) (fun x hx => hok x (List.mem_append_left _ hx))
    have e : polyOf c (r.reverse ++ [fb]) = mulFa (polyOf c r.reverse) fb := by unfold polyOf; rw [List.foldl_append]; rfl
    rw [e]
    obtain ⟨a1, a2⟩ := mulFa_step (hok fb (by simp)) i1 i2 (by omega) (by omega)
    exact ⟨a1.mono (by omega), by omega⟩
theorem rootsS_ok {fa : Fa} (h : FaOk fa) : (∀ r ∈ rootsS fa, Okr 10 r) ∧ (rootsS fa).length ≤ 2 := by
  cases fa with
  | lin q =>
    obtain ⟨h1, h2, h3, h4⟩ := h
    refine ⟨fun r hr => ?_, by simp [rootsS]⟩
    rw [List.mem_singleton.mp hr]
    exact ⟨h1, by unfold Sm; omega, by unfold Sm; omega⟩
  | sq k =>
    refine ⟨fun r hr => ?_, by simp [rootsS]⟩
    simp only [rootsS, List.mem_cons, List.not_mem_nil, or_false] at hr
    have hk : Sm 10 k := by unfold Sm; rcases h with h | h | h | h | h <;> omega
    rcases hr with rfl | rfl
    · exact ⟨by unfold Sm; decide, hk⟩
    · exact ⟨by unfold Sm; decide, hk⟩
  | no c d => exact ⟨fun r hr => by simp [rootsS] at hr, by simp [rootsS]⟩
theorem insR_ok {told : List Rt} {one : Rt} {n l : Nat} (h : ∀ r ∈ told, Okr n r) (h1 : Okr n one) (hl : told.length ≤ l) : (∀ r ∈ insR told one, Okr n r) ∧ (insR told one).length ≤ l + 1 := by
  unfold insR
  split
  · exact ⟨h, by omega⟩
  · refine ⟨fun r hr => ?_, by simp; omega⟩
    rcases List.mem_append.mp hr with hr | hr
    · exact h r (List.mem_of_mem_take hr)
    · rcases List.mem_cons.mp hr with rfl | hr
      · exact h1
      · exact h r (List.mem_of_mem_drop hr)
theorem insRs_ok {n : Nat} : ∀ (rs : List Rt) (told : List Rt) (l : Nat), (∀ r ∈ told, Okr n r) → (∀ r ∈ rs, Okr n r) → told.length ≤ l → (∀ r ∈ rs.foldl insR told, Okr n r) ∧ (rs.foldl insR told).length ≤ l + rs.length
  | [], told, l, h, h1, hl => ⟨h, by simpa using hl⟩
  | r :: rs, told, l, h, h1, hl => by
    obtain ⟨a1, a2⟩ := insR_ok h (h1 r (.head _)) hl
    obtain ⟨b1, b2⟩ := insRs_ok rs _ (l + 1) a1 (fun x hx => h1 x (.tail _ hx)) a2
    exact ⟨b1, by rw [List.length_cons]; rw [List.foldl_cons]; omega⟩
theorem rootsOf_ok : ∀ (fs : List (Fa × Bool)), (∀ fb ∈ fs, FaOk fb.1) → (∀ r ∈ rootsOf fs, Okr 10 r) ∧ (rootsOf fs).length ≤ 2 * fs.length := by
  intro fs
  suffices key : ∀ r : List (Fa × Bool), (∀ fb ∈ r.reverse, FaOk fb.1) → (∀ x ∈ rootsOf r.reverse, Okr 10 x) ∧ (rootsOf r.reverse).length ≤ 2 * r.reverse.length by
    have := key fs.reverse; rwa [List.reverse_reverse] at this
  intro r
  induction r with
  | nil => intro _; exact ⟨fun x hx => by simp [rootsOf] at hx, by simp [rootsOf]⟩
  | cons fb r ih =>
    intro hok
    rw [List.reverse_cons] at hok ⊢
    obtain ⟨i1, i2⟩ := ih (fun x hx => hok x (List.mem_append_left _ hx))
    have e : rootsOf (r.reverse ++ [fb]) = (rootsS fb.1).foldl insR (rootsOf r.reverse) := by unfold rootsOf; rw [List.foldl_append]; rfl
    rw [e]
    obtain ⟨f1, f2⟩ := rootsS_ok (hok fb (by simp))
    obtain ⟨a1, a2⟩ := insRs_ok (rootsS fb.1) (rootsOf r.reverse) _ i1 f1 i2
    exact ⟨a1, by rw [List.length_append, List.length_singleton]; omega⟩
end

section
open PySem PySem.W PyProof.Rows PySem.Calls
set_option maxRecDepth 100000
variable {Γ : Gl}


theorem E.take {sc : Scope} {k : Nat} {σ : Ctx} {np px p1 pos : Pos} {n : Nat} {many : Int} {st : DS} {ad : Addr} (hx : σ.lookup (S "draws") = some (.own ad (.dr Γ.w st.1 st.2))) (h0 : 0 < many) (h1 : many < 1000) (hn : sc.names.lookup (S "_law_take") = some .globalImplicit) :
    E Γ sc (k + 1) (.Call (.Name (S "_law_take") np) [.Name (S "draws") px, .Constant (.int many) n p1] [] pos) σ (.int (takeS many st).1) (upd σ (S "draws") (.own ad (.dr Γ.w (takeS many st).2.1 (takeS many st).2.2))) :=
  E.callD hx (L.cons E.int L.nil) (c_take h0 h1) hn
theorem shaped_list {α : Type} (f : α → D) (n : Nat) (hn : n ≤ 60) (h : ∀ x, (f x).py.canLay0 = true ∧ (f x).py.depth ≤ n) (l : List α) : SeqAt.shaped (D.list (l.map f)).py = true := by
  have key : PyData.canLayAll0 (D.pyL (l.map f)) = true ∧ PyData.depthAll (D.pyL (l.map f)) ≤ n := by
    induction l with
    | nil => exact ⟨rfl, Nat.zero_le _⟩
    | cons x l ih => exact ⟨by simp [D.pyL, PyData.canLayAll0, (h x).1, ih.1], by have := (h x).2; simp only [List.map_cons, D.pyL, PyData.depthAll]; omega⟩
  unfold SeqAt.shaped
  simp only [D.py, PyData.canLay0, PyData.depth, key.1, Bool.true_and, decide_eq_true_eq]
  omega
theorem rt_lay (r : Rt) : r.d.py.canLay0 = true ∧ r.d.py.depth ≤ 2 := by
  have h := shaped_rt r
  unfold SeqAt.shaped at h
  rw [Bool.and_eq_true] at h
  refine ⟨h.1, ?_⟩
  cases r <;> simp [D.py, D.pyL, PyData.depth, PyData.depthAll]
theorem any_rt (told : List Rt) (one : Rt) : ((D.pyL (told.map Rt.d)).any fun y => PyData.eqv y one.d.py) = decide (one ∈ told) := by
  induction told with
  | nil => rfl
  | cons r told ih =>
    rw [List.map_cons, D.pyL, List.any_cons, ih, eqv_rt, Bool.eq_iff_iff]
    simp only [Bool.or_eq_true, decide_eq_true_eq, List.mem_cons]
    constructor
    · rintro (h | h)
      · exact .inl h.symm
      · exact .inr h
    · rintro (h | h)
      · exact .inl h.symm
      · exact .inr h
noncomputable abbrev mkCtx (st : DS) (found : List Int) (told : List Rt) (ad : Addr) : Ctx := [(S "draws", .own ad (.dr Γ.w st.1 st.2)), (S "found", .d (il found)), (S "told", .d (.list (told.map Rt.d)))]
theorem w_turn {k : Nat} {st : DS} {found : List Int} {told : List Rt} {ad : Addr} {dt : D} {n : Nat} (hf : SmL n found) (hn : n ≤ 1000) (hl : found.length ≤ 20) (hl0 : 1 ≤ found.length) (ht : ∀ r ∈ told, Okr 10 r) (htl : told.length ≤ 20) :
    X Γ (fS 62) (k + 3) (forB 62) [(S "draws", .own ad (.dr Γ.w st.1 st.2)), (S "found", .d (il found)), (S "told", .d (.list (told.map Rt.d))), (S "turn", .d dt)]
      (.next fun σ => σ.has [(S "draws", .own ad (.dr Γ.w (turnS st).2.1 (turnS st).2.2)), (S "found", .d (il (mulFa found (turnS st).1))), (S "told", .d (.list (((rootsS (turnS st).1.1).foldl insR told).map Rt.d)))]) := by
  have hr4 := takeS_range (many := 4) (by decide) st
  have hfa := turnS_ok st
  unfold turnS
  have hfa : FaOk (faS (takeS 4 st).1 (takeS 4 st).2).1 := hfa
  refine X.assign (E.take (st := st) rfl (by decide) (by decide) rfl) (by walk_at "st") ?_
  generalize takeS 4 st = f at hr4 hfa ⊢
  refine X.ite (J := fun σ => σ.has [(S "draws", .own ad (.dr Γ.w (faS f.1 f.2).2.1 (faS f.1 f.2).2.2)), (S "found", .d (il found)), (S "told", .d (.list (told.map Rt.d))), (S "form", .d (.int f.1)), (S "factor", .d (il (facS (faS f.1 f.2).1))), (S "some_roots", .d (.list ((rootsS (faS f.1 f.2).1).map Rt.d)))]) (T.cmp (E.name rfl) E.int (by walk_at "op")) (fun hc => ?_) (fun hc => ?_) fun σ2 hσ => X.has ?_ hσ
  · have hc : f.1 < 2 := by simpa using hc
    have e : faS f.1 f.2 = (.lin (redS ((takeS 9 (takeS 3 f.2).2).1 - 4) (1 + (takeS 3 f.2).1)), (takeS 9 (takeS 3 f.2).2).2) := by unfold faS; rw [if_pos hc]
    rw [e]
    refine X.swapF (ns := [S "bottom", S "top"]) (.cons (.cons .nil)) rfl (M.d (E.bin E.int (E.take (st := f.2) rfl (by decide) (by decide) rfl) B.add) (M.d (E.bin (E.take (st := (takeS 3 f.2).2) rfl (by decide) (by decide) rfl) E.int B.sub) M.nil)) (by walk_at "sts") fun _ _ => ?_
    generalize takeS 9 (takeS 3 f.2).2 = t
    generalize takeS 3 f.2 = b
    refine X.compFilter (σc := [(S "top", .d (.int (t.1 - 4))), (S "bottom", .d (.int (1 + b.1)))]) ([2, 3] : List Int) .int .int (fun o => (t.1 - 4).fmod o == 0 && (1 + b.1).fmod o == 0) (I.tup (E.tup (ds := [.int 2, .int 3]) (L.cons E.int (L.cons E.int L.nil)) (by simp))) (by decide +kernel) (by walk_at "inner") (by simp) (fun o ho => ⟨_, A.name (by walk_at "st"), El.test (T.and (T.cmp (E.bin (E.name rfl) (E.name rfl) (B.mod ?_)) E.int C.eq) fun _ => T.cmp (E.bin (E.name rfl) (E.name rfl) (B.mod ?_)) E.int C.eq) (fun _ => (E.name rfl)) (has_take 2 rfl)⟩) (by walk_at "st") ?_
    · simp at ho; omega
    · simp at ho; omega
    · have hred : redS (t.1 - 4) (1 + b.1) = match ([2, 3] : List Int).filter (fun o => (t.1 - 4).fmod o == 0 && (1 + b.1).fmod o == 0) with | [] => ((t.1 - 4), (1 + b.1)) | o :: _ => ((t.1 - 4).fdiv o, (1 + b.1).fdiv o) := rfl
      have hmem : ∀ o ∈ ([2, 3] : List Int).filter (fun o => (t.1 - 4).fmod o == 0 && (1 + b.1).fmod o == 0), o ≠ 0 ∧ Sm 10 o := fun o ho => by
        have := (List.mem_filter.mp ho).1
        simp at this
        rcases this with rfl | rfl <;> exact ⟨by decide, by unfold Sm; decide⟩
      have hlen : (([2, 3] : List Int).filter (fun o => (t.1 - 4).fmod o == 0 && (1 + b.1).fmod o == 0)).length ≤ 2 := List.length_filter_le _ _
      rw [hred]
      generalize ([2, 3] : List Int).filter (fun o => (t.1 - 4).fmod o == 0 && (1 + b.1).fmod o == 0) = off at hmem hlen
      cases off with
      | nil =>
        refine X.unpack (E.ite (c := false) (d := .tup [.int (t.1 - 4), .int (1 + b.1)]) (T.conv (T.cmp (E.name rfl) (E.lst (ds := il' []) L.nil (by simp)) (C.ned (shaped_il []) (shaped_il []))) (by rw [nez]; rfl)) (fun h => by cases h) fun _ => (E.tup (L.cons (E.name rfl) (L.cons (E.name rfl) L.nil)) (by walk_at "side"))) (A.tup (AL.cons (A.name (by walk_at "st")) (AL.cons (A.name (by walk_at "st")) AL.nil)))
          (X.swapR (ns := [S "factor", S "some_roots"]) rfl (M.d (E.lst (L.cons (E.un (E.name rfl) (by walk_at "op")) (L.cons (E.name rfl) L.nil)) (by walk_at "side")) (M.d (E.lst (L.cons (E.tup (L.cons E.str (L.cons (E.tup (L.cons (E.name rfl) (L.cons (E.name rfl) L.nil)) (by walk_at "side")) L.nil)) (by walk_at "side")) L.nil) (by walk_at "side")) M.nil)) (by walk_at "sts") (by decide +kernel) fun _ _ => X.done (by walk_at "has"))
      | cons o off =>
        have ho := hmem o (.head _)
        have hlog := ho.2.log (by omega)
        have hg : ∀ {kk}, G Γ kk (il (o :: off)) 0 (.int o) := G.list (j := 0) (by rw [List.length_map]; exact idx_nat (n := (o :: off).length) (i := 0) (by simp)) rfl (by simp at hlen ⊢; omega)
        refine X.unpack (E.ite (c := true) (d := .tup [.int ((t.1 - 4).fdiv o), .int ((1 + b.1).fdiv o)]) (T.conv (T.cmp (E.name rfl) (E.lst (ds := il' []) L.nil (by simp)) (C.ned (shaped_il (o :: off)) (shaped_il []))) (by rw [nez]; rfl)) (fun _ => E.tup (L.cons (E.bin (E.name rfl) (E.sub (E.name rfl) E.int hg) (B.div ho.1 hlog)) (L.cons (E.bin (E.name rfl) (E.sub (E.name rfl) E.int hg) (B.div ho.1 hlog)) L.nil)) (by simp)) fun h => by cases h) (A.tup (AL.cons (A.name (by walk_at "st")) (AL.cons (A.name (by walk_at "st")) AL.nil)))
          (X.swapR (ns := [S "factor", S "some_roots"]) rfl (M.d (E.lst (L.cons (E.un (E.name rfl) (by walk_at "op")) (L.cons (E.name rfl) L.nil)) (by walk_at "side")) (M.d (E.lst (L.cons (E.tup (L.cons E.str (L.cons (E.tup (L.cons (E.name rfl) (L.cons (E.name rfl) L.nil)) (by walk_at "side")) L.nil)) (by walk_at "side")) L.nil) (by walk_at "side")) M.nil)) (by walk_at "sts") (by decide +kernel) fun _ _ => X.done (by walk_at "has"))
  · have hc : ¬ f.1 < 2 := by simpa using hc
    by_cases h2 : f.1 = 2
    · have e : faS f.1 f.2 = (.sq (([2, 3, 5, 6, 7] : List Int).getD (takeS 5 f.2).1.toNat 0), (takeS 5 f.2).2) := by unfold faS; rw [if_neg hc, if_pos h2]
      rw [e]
      have hr5 := takeS_range (many := 5) (by decide) f.2
      refine X.iteT (T.conv (c' := true) (T.cmp (E.name rfl) E.int (by walk_at "op")) (by simpa using h2)) (X.assign (E.sub (E.conv (d' := il [2, 3, 5, 6, 7]) (E.lst (L.cons E.int (L.cons E.int (L.cons E.int (L.cons E.int (L.cons E.int L.nil))))) (by walk_at "side")) rfl) (E.take (st := f.2) rfl (by decide) (by decide) rfl) (G.atI hr5.1 (by simp; omega) (by simp))) (by walk_at "st") (X.swapR (ns := [S "factor", S "some_roots"]) rfl (M.d (E.lst (L.cons (E.un (E.name rfl) (by walk_at "op")) (L.cons E.int (L.cons E.int L.nil))) (by walk_at "side")) (M.d (E.lst (L.cons (E.tup (L.cons E.str (L.cons (E.un E.int (by walk_at "op")) (L.cons (E.name rfl) L.nil))) (by walk_at "side")) (L.cons (E.tup (L.cons E.str (L.cons E.int (L.cons (E.name rfl) L.nil))) (by walk_at "side")) L.nil)) (by walk_at "side")) M.nil)) (by walk_at "sts") (by decide +kernel) fun _ _ => X.nil)) (X.done (by walk_at "has"))
    · have e : faS f.1 f.2 = (.no (1 + (takeS 3 f.2).1) ((takeS 3 (takeS 3 f.2).2).1 - 1), (takeS 3 (takeS 3 f.2).2).2) := by unfold faS; rw [if_neg hc, if_neg h2]
      rw [e]
      exact X.iteF (T.conv (c' := false) (T.cmp (E.name rfl) E.int (by walk_at "op")) (by simpa using h2)) (X.swapR (ns := [S "factor", S "some_roots"]) rfl (M.d (E.lst (L.cons (E.bin E.int (E.take (st := f.2) rfl (by decide) (by decide) rfl) B.add) (L.cons (E.bin (E.take (st := (takeS 3 f.2).2) rfl (by decide) (by decide) rfl) E.int B.sub) (L.cons E.int L.nil))) (by simp)) (M.d (E.lst (ds := ([] : List Rt).map Rt.d) L.nil (by simp)) M.nil)) (by walk_at "sts") (by decide +kernel) fun _ _ => X.nil) (X.done (by walk_at "has"))
  · generalize faS f.1 f.2 = a at hfa ⊢
    obtain ⟨f1, f2, f3⟩ := facS_ok hfa
    obtain ⟨r1, r2⟩ := rootsS_ok hfa
    show X Γ _ _ _ _ (.next fun σ => σ.has [(S "draws", .own ad (.dr Γ.w (takeS 3 a.2).2.1 (takeS 3 a.2).2.2)), (S "found", .d (il (mulFa found (a.1, (takeS 3 a.2).1 == 0 && decide (f.1 < 2))))), (S "told", .d (.list (((rootsS a.1).foldl insR told).map Rt.d)))])
    have hmul1 := mulS_step hfa hf hl (by omega) (by omega)
    have hmul2 := mulS_step hfa hmul1.1 hmul1.2 (by omega) (by omega)
    refine X.forH (fun i => [(S "draws", .own ad (.dr Γ.w (takeS 3 a.2).2.1 (takeS 3 a.2).2.2)), (S "found", .d (il (if i = 0 then found else if i = 1 then mulS found (facS a.1) else mulS (mulS found (facS a.1)) (facS a.1)))), (S "told", .d (.list (told.map Rt.d))), (S "factor", .d (il (facS a.1))), (S "some_roots", .d (.list ((rootsS a.1).map Rt.d)))])
      (I.conv (ds' := rangeD 0 (if ((takeS 3 a.2).1 == 0 && decide (f.1 < 2)) = true then 2 else 1)) (I.range1 (E.bin E.int (E.and (E.cmp (E.take (st := a.2) rfl (by decide) (by decide) rfl) E.int C.eq) fun _ => (E.cmp (E.name rfl) E.int (by walk_at "op"))) B.addb) ?_ rfl) ?_) (by walk_at "has") (fun i d hd => ?_) ?_
    · split <;> omega
    · congr 1; split <;> simp
    · obtain ⟨hi, rfl⟩ := rangeD_get hd
      have hi : i = 0 ∨ i = 1 := by split at hi <;> omega
      refine ⟨_, A.name (by walk_at "st"), ?_⟩
      rcases hi with rfl | rfl
      · rw [if_pos (rfl : (0 : Nat) = 0)]
        exact X.assign (E.call (L.cons (E.name rfl) (L.cons (E.name rfl) L.nil)) (c_law_mul (k := k + 2) (by omega) (by omega) hf f1 (by omega)) rfl) (by walk_at "st") (X.done (by walk_at "has"))
      · rw [if_neg (by decide : ¬ (1 : Nat) = 0), if_pos (rfl : (1 : Nat) = 1)]
        exact X.assign (E.call (L.cons (E.name rfl) (L.cons (E.name rfl) L.nil)) (c_law_mul (k := k + 2) (by omega) (by omega) hmul1.1 f1 (by omega)) rfl) (by walk_at "st") (X.done (by walk_at "has"))
    · rw [rangeD_len]
      have e1 : (if (if ((takeS 3 a.2).1 == 0 && decide (f.1 < 2)) = true then 2 else 1) = 0 then found else if (if ((takeS 3 a.2).1 == 0 && decide (f.1 < 2)) = true then 2 else 1) = 1 then mulS found (facS a.1) else mulS (mulS found (facS a.1)) (facS a.1)) = mulFa found (a.1, (takeS 3 a.2).1 == 0 && decide (f.1 < 2)) := by
        unfold mulFa; split <;> simp
      rw [e1]
      generalize mulFa found (a.1, (takeS 3 a.2).1 == 0 && decide (f.1 < 2)) = g
      refine X.forH (fun i => [(S "draws", .own ad (.dr Γ.w (takeS 3 a.2).2.1 (takeS 3 a.2).2.2)), (S "found", .d (il g)), (S "told", .d (.list ((((rootsS a.1).take i).foldl insR told).map Rt.d)))]) (I.list (E.name rfl)) (by walk_at "has") (fun i d hd => ?_) ?_
      · obtain ⟨one, ho, rfl⟩ := map_get hd
        have hone := r1 one (List.mem_of_getElem? ho)
        rw [take_succ ho, List.foldl_append]
        obtain ⟨t1, t2⟩ := insRs_ok ((rootsS a.1).take i) told 20 ht (fun x hx => r1 x (List.mem_of_mem_take hx)) htl
        have t3 : (((rootsS a.1).take i).foldl insR told).length ≤ 22 := by rw [List.length_take] at t2; omega
        generalize ((rootsS a.1).take i).foldl insR told = td at t1 t3
        have htest := any_rt td one
        refine ⟨_, A.name (by walk_at "st"), ?_⟩
        by_cases hin : one ∈ td
        · have e2 : List.foldl insR td [one] = td := by simp [insR, hin]
          rw [e2]
          exact X.skip (T.conv (c' := false) (T.cmp (E.name rfl) (E.name rfl) (C.notIn (shaped_list Rt.d 2 (by omega) rt_lay td) (shaped_rt one))) (by rw [htest]; simp [hin])) (X.done (by walk_at "has"))
        · have e2 : List.foldl insR td [one] = td.take (insAtR td one) ++ one :: td.drop (insAtR td one) := by simp [insR, hin]
          rw [e2]
          have hle : insAtR td one ≤ td.length := List.length_filter_le _ _
          refine X.iteT (T.conv (c' := true) (T.cmp (E.name rfl) (E.name rfl) (C.notIn (shaped_list Rt.d 2 (by omega) rt_lay td) (shaped_rt one))) (by rw [htest]; simp [hin]))
            (X.assign (E.conv (d' := .int (insAtR td one : Nat)) (E.bcall b_len (L.cons (E.compFilter (σc := [(S "one", .d one.d)]) td Rt.d (fun _ => .int 1) (fun o => rootLess o one) (I.list (E.name rfl)) (by decide +kernel) (by walk_at "inner") (by omega) (fun o ho' => ⟨_, A.name (by walk_at "st"), El.test (T.value (E.call (L.cons (E.name rfl) (L.cons (E.name rfl) L.nil)) (c_root_less (t1 o ho') hone (by omega)) rfl) R.bool) (fun _ => E.int) (has_take 1 rfl)⟩)) L.nil) (F.len (by rw [List.length_map]; exact Nat.le_trans hle (by omega))) rfl) ?_) (by walk_at "st")
            (X.assign (E.bin (E.bin (E.upto (E.name rfl) (E.name rfl) (by omega) (by simp; omega)) (E.lst (L.cons (E.name rfl) L.nil) (by walk_at "side")) (B.addL (by simp; omega))) (E.from (E.name rfl) (E.name rfl) (by omega) (by simp; omega)) (B.addL (by simp; omega))) (by walk_at "st") X.nil)) (X.done ?_)
          · unfold insAtR; rw [List.length_map]
          · rw [Int.toNat_natCast]
            refine has_mem fun p hp => ?_
            rw [show (td.take (insAtR td one) ++ one :: td.drop (insAtR td one)).map Rt.d = (td.map Rt.d).take (insAtR td one) ++ [one.d] ++ (td.map Rt.d).drop (insAtR td one) by simp [List.map_take, List.map_drop]] at hp
            simp only [List.mem_cons, List.not_mem_nil, or_false] at hp
            rcases hp with rfl | rfl | rfl <;> rfl
      · rw [List.length_map, List.take_length]
        exact X.done (by walk_at "has")
noncomputable def madeS (st : DS) : (Int × List (Fa × Bool)) × DS :=
  ((([1, -2, 3] : List Int).getD (takeS 3 st).1.toNat 0, (turnsS (1 + (takeS 3 (takeS 3 st).2).1).toNat (takeS 3 (takeS 3 st).2).2).1), (turnsS (1 + (takeS 3 (takeS 3 st).2).1).toNat (takeS 3 (takeS 3 st).2).2).2)
theorem madeS_ok (st : DS) : ((madeS st).1.1 = 1 ∨ (madeS st).1.1 = -2 ∨ (madeS st).1.1 = 3) ∧ 1 ≤ (madeS st).1.2.length ∧ (madeS st).1.2.length ≤ 3 ∧ ∀ fb ∈ (madeS st).1.2, FaOk fb.1 := by
  have h1 := takeS_range (many := 3) (by decide) st
  have h2 := takeS_range (many := 3) (by decide) (takeS 3 st).2
  obtain ⟨t1, t2⟩ := turnsS_ok (1 + (takeS 3 (takeS 3 st).2).1).toNat (takeS 3 (takeS 3 st).2).2
  refine ⟨?_, ?_, ?_, t2⟩
  · show ([1, -2, 3] : List Int).getD (takeS 3 st).1.toNat 0 = 1 ∨ ([1, -2, 3] : List Int).getD (takeS 3 st).1.toNat 0 = -2 ∨ ([1, -2, 3] : List Int).getD (takeS 3 st).1.toNat 0 = 3
    generalize (takeS 3 st).1 = v at h1
    have : v = 0 ∨ v = 1 ∨ v = 2 := by omega
    rcases this with rfl | rfl | rfl <;> decide
  · show 1 ≤ (turnsS _ _).1.length
    rw [t1]; omega
  · show (turnsS _ _).1.length ≤ 3
    rw [t1]; omega
theorem polyOf_pos {c : Int} (fs : List (Fa × Bool)) : 1 ≤ (polyOf c fs).length := by
  suffices key : ∀ (fs : List (Fa × Bool)) (p : List Int), 1 ≤ p.length → 1 ≤ (fs.foldl mulFa p).length from key fs [c] (by simp)
  have ne : ∀ fa : Fa, 2 ≤ (facS fa).length := fun fa => by cases fa <;> simp [facS]
  have st : ∀ (p : List Int) (fa : Fa), 1 ≤ p.length → 1 ≤ (mulS p (facS fa)).length := fun p fa h => by
    have h2 := ne fa
    rw [mulS_len (by intro e; subst e; simp at h) (by intro e; rw [e] at h2; simp at h2)]; omega
  intro fs
  induction fs with
  | nil => intro p h; exact h
  | cons fb fs ih =>
    intro p h
    refine ih _ ?_
    unfold mulFa; split
    · exact st _ _ (st _ _ h)
    · exact st _ _ h
theorem c_law_made {k : Nat} {st : DS} : Cd Γ (k + 4) (S "_law_made") st.1 st.2 [] (.tup [il (polyOf (madeS st).1.1 (madeS st).1.2), .list ((rootsOf (madeS st).1.2).map Rt.d)]) (madeS st).2.1 (madeS st).2.2 := by
  have h1 := takeS_range (many := 3) (by decide) st
  have h2 := takeS_range (many := 3) (by decide) (takeS 3 st).2
  refine ⟨of_law_made fun ad => X.ok ?_⟩
  refine X.swapR (ns := [S "found", S "told"]) rfl (M.d (E.lst (L.cons (E.sub (E.conv (d' := il [1, -2, 3]) (E.lst (L.cons E.int (L.cons (E.un E.int (by walk_at "op")) (L.cons E.int L.nil))) (by walk_at "side")) rfl) (E.take (st := st) rfl (by decide) (by decide) rfl) (G.atI h1.1 (by simp; omega) (by simp))) L.nil) (by simp)) (M.d (E.lst (ds := ([] : List Rt).map Rt.d) L.nil (by simp)) M.nil)) (by walk_at "sts") (by decide +kernel) fun _ _ => ?_
  unfold madeS
  have hc : Sm 4 (([1, -2, 3] : List Int).getD (takeS 3 st).1.toNat 0) := SmL.getD (fun c hc => by simp at hc; rcases hc with rfl | rfl | rfl <;> (unfold Sm; decide)) _
  generalize ([1, -2, 3] : List Int).getD (takeS 3 st).1.toNat 0 = c at hc ⊢
  generalize takeS 3 st = s0 at h2 ⊢
  refine X.forH (fun i => [(S "draws", .own ad (.dr Γ.w (turnsS i (takeS 3 s0.2).2).2.1 (turnsS i (takeS 3 s0.2).2).2.2)), (S "found", .d (il (polyOf c (turnsS i (takeS 3 s0.2).2).1))), (S "told", .d (.list ((rootsOf (turnsS i (takeS 3 s0.2).2).1).map Rt.d)))]) (I.range1 (E.bin E.int (E.take (st := s0.2) rfl (by decide) (by decide) rfl) B.add) (by omega) rfl) (by walk_at "has") (fun i d hd => ?_) ?_
  · obtain ⟨hi, rfl⟩ := rangeD_get hd
    obtain ⟨t1, t2⟩ := turnsS_ok i (takeS 3 s0.2).2
    have hi5 : i ≤ 3 := by omega
    obtain ⟨p1, p2⟩ := polyOf_ok hc _ (by rw [t1]; omega) t2
    obtain ⟨q1, q2⟩ := rootsOf_ok _ t2
    refine ⟨_, A.name (by walk_at "st"), ?_⟩
    have := w_turn (Γ := Γ) (k := k) (st := (turnsS i (takeS 3 s0.2).2).2) (found := polyOf c (turnsS i (takeS 3 s0.2).2).1) (told := rootsOf (turnsS i (takeS 3 s0.2).2).1) (ad := ad) (dt := .int (0 + (i : Nat))) p1 (by rw [t1]; omega) (by rw [t1] at p2; omega) (polyOf_pos _) q1 (by rw [t1] at q2; omega)
    have e1 : polyOf c (turnsS (i + 1) (takeS 3 s0.2).2).1 = mulFa (polyOf c (turnsS i (takeS 3 s0.2).2).1) (turnS (turnsS i (takeS 3 s0.2).2).2).1 := by rw [turnsS]; unfold polyOf; rw [List.foldl_append]; rfl
    have e2 : rootsOf (turnsS (i + 1) (takeS 3 s0.2).2).1 = (rootsS (turnS (turnsS i (takeS 3 s0.2).2).2).1.1).foldl insR (rootsOf (turnsS i (takeS 3 s0.2).2).1) := by rw [turnsS]; unfold rootsOf; rw [List.foldl_append]; rfl
    rw [e1, e2]
    exact this
  · rw [rangeD_len]
    exact X.retN (E.tup (L.cons (E.name rfl) (L.cons (E.name rfl) L.nil)) (by walk_at "side")) rfl
end

section
open PySem PySem.W PyProof.Rows PySem.Calls
set_option maxRecDepth 100000
variable {Γ : Gl}


theorem T.or3F {sc : Scope} {k : Nat} {σ : Ctx} {x y z : Expr} {pos : Pos} (h1 : T Γ sc k x σ false σ) (h2 : T Γ sc k y σ false σ) (h3 : T Γ sc k z σ false σ) : T Γ sc k (.BoolOp .Or [x, y, z] pos) σ false σ := by
  refine ⟨fun A env P g s Q R S _ q => wpAny_isTrue_BoolOp (wpAny_allTrue_Or_cons (h1.ok A env P g s _ R S trivial fun b P1 g1 h1' t1 st1 S1 a1 => ?_))⟩
  subst a1
  refine wpAny_allTrue_Or_cons (h2.ok A env P1 g1 _ _ R S1 trivial fun b P2 g2 h2' t2 st2 S2 a2 => ?_)
  subst a2
  refine wpAny_allTrue_Or_cons (h3.ok A env P2 g2 _ _ R S2 trivial fun b P3 g3 h3' t3 st3 S3 a3 => ?_)
  subst a3
  exact wpAny_allTrue_Or_nil (q _ _ _ _ _ ((st1.trans st2).trans st3) S3 rfl)
structure PieceOk (told : List Rt) (i : Iv) (r : Rt) : Prop where
  eq : i.1 = i.2 → r = .rat i.1
  less : i.1 ≠ i.2 → ratLess i.1 i.2 = true
  low : i.1 ≠ i.2 → atMost r i.1 = false
  high : i.1 ≠ i.2 → above i.2 r = true
  one : i.1 ≠ i.2 → counted told i.1 i.2 = 1
structure PR (pieces : List Iv) (told : List Rt) : Prop where
  len : pieces.length = told.length
  each : ∀ (i : Nat) (p : Iv) (r : Rt), pieces[i]? = some p → told[i]? = some r → PieceOk told p r
  up : ∀ (i : Nat) (p q : Iv), pieces[i]? = some p → pieces[i + 1]? = some q → ratLess q.1 p.2 = false
theorem c_pieces_right {k n : Nat} {pieces : List Iv} {told : List Rt} (h : PR pieces told) (hl : told.length ≤ 100) (ht : ∀ r ∈ told, Okr n r) (hp : ∀ p ∈ pieces, Okq n p.1 ∧ Okq n p.2) (hn : n ≤ 4000) : Cf Γ (k + 5) (S "_law_pieces_right") [.list (pieces.map di), .list (told.map Rt.d)] (.bool true) := by
  have hlen := h.len
  refine ⟨of_law_pieces_right (o := .ret _) (X.ok (X.skip (T.conv (c' := false) (T.cmp (E.bcall b_len (L.cons (E.name rfl) L.nil) (F.len (by simp; omega)) rfl) (E.bcall b_len (L.cons (E.name rfl) L.nil) (F.len (by simp; omega)) rfl) C.ne) (by simp [hlen])) (X.forH (fun i => [(S "pieces", .d (.list (pieces.map di))), (S "told", .d (.list (told.map Rt.d)))]) (I.enum (E.name rfl) rfl) has_refl (fun i d hd => ?_) (X.ret E.bool))))⟩
  obtain ⟨d', h1, rfl⟩ := enumD_get hd
  obtain ⟨p, hpi, rfl⟩ := map_get h1
  rw [Nat.zero_add]
  have hi : i < pieces.length := (List.getElem?_eq_some_iff.mp hpi).1
  have hr : told[i]? = some told[i] := List.getElem?_eq_getElem (by omega)
  obtain ⟨c1, c2, c3, c4, c5⟩ := h.each i p _ hpi hr
  obtain ⟨o1, o2⟩ := hp p (List.mem_of_getElem? hpi)
  have hrm := ht _ (List.mem_of_getElem? hr)
  generalize told[i] = r at *
  have gt : ∀ {kk}, G Γ kk (.list (told.map Rt.d)) (i : Nat) r.d := G.list (j := i) (by rw [List.length_map]; exact idx_nat (by omega)) (by rw [List.getElem?_map, hr]; rfl) (by rw [List.length_map]; omega)
  refine ⟨_, A.tup (AL.cons (A.name (by walk_at "st")) (AL.cons (A.tup (AL.cons (A.name (by walk_at "st")) (AL.cons (A.name (by walk_at "st")) AL.nil))) AL.nil)), ?_⟩
  refine X.ite (J := fun σ => σ = [(S "pieces", .d (.list (pieces.map di))), (S "told", .d (.list (told.map Rt.d))), (S "at", .d (.int (i : Nat))), (S "low", .d (dq p.1)), (S "high", .d (dq p.2))]) (c := decide (p.1 = p.2)) (T.conv (T.cmp (E.name rfl) (E.name rfl) (C.eqd (shaped_dq p.1) (shaped_dq p.2))) (eqv_dq _ _)) (fun hc => ?_) (fun hc => ?_) fun σ2 hσ => ?_
  · have he : p.1 = p.2 := by simpa using hc
    exact X.skip (T.conv (c' := false) (T.cmp (E.sub (E.name rfl) (E.name rfl) gt) (E.tup (ds := [.str (S "rat"), dq p.1]) (L.cons E.str (L.cons (E.name rfl) L.nil)) (by simp)) (C.ned (b := Rt.d (.rat p.1)) (shaped_rt _) (shaped_rt _))) (by rw [eqv_rt]; simpa using c1 he)) (X.done rfl)
  · have he : p.1 ≠ p.2 := by simpa using hc
    exact X.iteF (T.or3F (T.conv (c' := false) (T.not (T.value (E.call (L.cons (E.name rfl) (L.cons (E.name rfl) L.nil)) (c_rat_less o1 o2 hn) rfl) R.bool)) (by simp [c2 he])) (T.conv (c' := false) (T.value (E.call (L.cons (E.sub (E.name rfl) (E.name rfl) gt) (L.cons (E.name rfl) L.nil)) (c_at_most o1 hrm hn) rfl) R.bool) (c3 he)) (T.conv (c' := false) (T.not (T.value (E.call (L.cons (E.name rfl) (L.cons (E.sub (E.name rfl) (E.name rfl) gt) L.nil)) (c_rat_above o2 hrm hn) rfl) R.bool)) (by simp [c4 he])))
      (X.skip (T.conv (c' := false) (T.cmp (E.call (L.cons (E.name rfl) (L.cons (E.name rfl) (L.cons (E.name rfl) L.nil))) (c_counted hl ht o1 o2 hn) rfl) E.int C.ne) (by simp [c5 he])) X.nil) (X.done rfl)
  · subst hσ
    by_cases h0 : i = 0
    · subst h0
      exact X.skip (T.conv (c' := false) (T.and (c' := false) (T.cmp (E.name rfl) E.int (by walk_at "op")) fun hc => by simp at hc) (by simp)) (X.done (has_take 2 rfl))
    · obtain ⟨j, rfl⟩ : ∃ j, i = j + 1 := ⟨i - 1, by omega⟩
      have hj : j < pieces.length := by omega
      have hpj : pieces[j]? = some pieces[j] := List.getElem?_eq_getElem hj
      have hup := h.up j _ _ hpj hpi
      have oj := (hp _ (List.mem_of_getElem? hpj)).2
      generalize pieces[j] = q at hpj hup oj
      have gp : ∀ {kk}, G Γ kk (.list (pieces.map di)) (((j + 1 : Nat) : Int) - 1) (di q) := G.list (j := j) (by rw [List.length_map, show (((j + 1 : Nat) : Int) - 1) = (j : Nat) by omega]; exact idx_nat hj) (by rw [List.getElem?_map, hpj]; rfl) (by rw [List.length_map]; omega)
      exact X.skip (T.conv (c' := false) (T.and (T.cmp (E.name rfl) E.int (by walk_at "op")) fun hc => T.value (E.call (L.cons (E.name rfl) (L.cons (E.sub (E.sub (E.name rfl) (E.bin (E.name rfl) E.int (by walk_at "op")) gp) E.int (G.tup rfl rfl (by simp))) L.nil)) (c_rat_less o1 oj hn) rfl) R.bool) (by rw [hup, Bool.and_false])) (X.done (has_take 2 rfl))
theorem O.call {sc : Scope} {k : Nat} {σ σ1 : Ctx} {n : Str} {e : Expr} {es : List Expr} {np pos : Pos} {ds : List D} {oc : OC} (h1 : L Γ sc k (e :: es) σ ds σ1) (h2 : CallO Γ k n ds oc) (hx : sc.names.lookup n = some .globalImplicit)
    (he : ∀ env, starEach (e :: es) env = (false, eval e env) :: starEach es env := by intro _; with_unfolding_all rfl) (hp : ∀ env, (backTo pos (starEach es env)).any (·.1) = false := by intro _; with_unfolding_all rfl) (hd : (n == ("__debug__" : Str)) = false := by decide +kernel) :
    O Γ sc k (.Call (.Name n np) (e :: es) [] pos) σ oc σ1 := ⟨EvO.call h1.ok h2 hx he hp hd⟩
noncomputable def Query (q : Int × Int) : Prop := ∃ t b : Int, -10 ≤ t ∧ t ≤ 10 ∧ 1 ≤ b ∧ b ≤ 6 ∧ q = lowest t b
structure LawOk (f : List Int) (told : List Rt) : Prop where
  simple : SimpleOk f
  rowok : RowOk (simpleS f)
  flen : f.length ≤ 8
  ne : f ≠ []
  lead0 : lead f ≠ 0
  sm : SmL 4000 f
  tok : ∀ r ∈ told, Okr 10 r
  tlen : told.length ≤ 20
  iso : ∃ (r : List Iv × Option (Int × Int)) (left : List Int) (xs : List (Int × Int)) (found : List Iv) (K : Iv → Iv), SpAt (simpleS f) r ∧ IsoR (simpleS f) [] r (left, xs, found) ∧ left.length ≤ 8 ∧ SmL 4000 left ∧ (∀ x ∈ xs, Okq 1000 x) ∧ xs.length ≤ 100 ∧ found.length ≤ 100 ∧
    (∀ i ∈ found, KeptR left xs i (K i)) ∧ (∀ i ∈ found, Okq 4000 (K i).1 ∧ Okq 4000 (K i).2) ∧ PR (sortedS (xs.map (fun x => (x, x)) ++ found.map K)) told
  cnt : countRow (sturm (simpleS f)) .neg .pos = told.length
  query : ∀ p q, Query p → Query q → countRow (sturm (simpleS f)) (.fin (if ratLess p q = true then p else q)) (.fin (if ratLess p q = true then q else p)) = counted told (if ratLess p q = true then p else q) (if ratLess p q = true then q else p) ∧
    countRow (sturm (simpleS f)) .neg (.fin (if ratLess p q = true then q else p)) + countRow (sturm (simpleS f)) (.fin (if ratLess p q = true then q else p)) .pos = told.length
  bsm : Sm 900 (rootBound f)
  blow : changes (sgnAt (.fin (-rootBound f, 1))) (sturm (simpleS f)) = changes (sgnAt .neg) (sturm (simpleS f))
  bhigh : changes (sgnAt (.fin (rootBound f, 1))) (sturm (simpleS f)) = changes (sgnAt .pos) (sturm (simpleS f))
  ball : counted told (-rootBound f, 1) (rootBound f, 1) = told.length
theorem query_ok {q : Int × Int} (h : Query q) : Okq 10 q := by
  obtain ⟨t, b, h1, h2, h3, h4, rfl⟩ := h
  have key : ∀ t ∈ (List.range 21).map (fun i : Nat => (i : Int) - 10), ∀ b ∈ ([1, 2, 3, 4, 5, 6] : List Int), 0 < (lowest t b).2 ∧ (lowest t b).1.natAbs < 1024 ∧ (lowest t b).2.natAbs < 1024 := by decide +kernel
  obtain ⟨a1, a2, a3⟩ := key t (List.mem_map.mpr ⟨(t + 10).toNat, by simp; omega, by omega⟩) b (by simp; omega)
  exact ⟨a1, a2, a3⟩
end

section
open PySem PySem.W PyProof.Rows PySem.Calls
set_option maxRecDepth 100000
variable {Γ : Gl}


noncomputable def pairS (st : DS) : (Int × Int) × DS := (lowest ((takeS 21 st).1 - 10) (1 + (takeS 6 (takeS 21 st).2).1), (takeS 6 (takeS 21 st).2).2)
noncomputable def drawsAt (st : DS) : Nat → DS
  | 0 => st
  | n + 1 => (pairS (pairS (drawsAt st n)).2).2
theorem pairS_query (st : DS) : Query (pairS st).1 := by
  have h1 := takeS_range (many := 21) (by decide) st
  have h2 := takeS_range (many := 6) (by decide) (takeS 21 st).2
  exact ⟨_, _, by omega, by omega, by omega, by omega, rfl⟩
theorem Okq.okp {n : Nat} {q : Int × Int} (h : Okq n q) : Okp n (.fin q) := h
theorem OkrAny.mono {n m : Nat} {r : Rt} (h : Okr n r) (hnm : n ≤ m) : Okr m r := by
  cases r with
  | rat q => exact Okq.mono h hnm
  | root s k => exact ⟨h.1.mono hnm, h.2.mono hnm⟩
theorem okq_bound {f : List Int} (h : Sm 900 (rootBound f)) : Okq 900 (rootBound f, 1) ∧ Okq 900 (-rootBound f, 1) :=
  ⟨⟨Int.zero_lt_one, h, by unfold Sm; exact Nat.one_lt_two_pow (by decide)⟩, ⟨Int.zero_lt_one, h.neg, by unfold Sm; exact Nat.one_lt_two_pow (by decide)⟩⟩
noncomputable abbrev lwCtx (ad : Addr) (st : DS) (f : List Int) (told : List Rt) : Ctx := [(S "draws", .own ad (.dr Γ.w st.1 st.2)), (S "f", .d (il f)), (S "told", .d (.list (told.map Rt.d)))]
theorem e_pair {k : Nat} {sc : Scope} {σ : Ctx} {st : DS} {ad : Addr} {p1 p2 p3 p4 p5 p6 p7 p8 p9 p10 p11 p12 p13 p14 : Pos} {n1 n2 n3 n4 : Nat} (hx : σ.lookup (S "draws") = some (.own ad (.dr Γ.w st.1 st.2))) (h1 : sc.names.lookup (S "_law_take") = some .globalImplicit) (h2 : sc.names.lookup (S "_law_lowest") = some .globalImplicit) :
    E Γ sc (k + 1) (.Call (.Name (S "_law_lowest") p1) [.BinOp (.Call (.Name (S "_law_take") p2) [.Name (S "draws") p3, .Constant (.int 21) n1 p4] [] p5) .Sub (.Constant (.int 10) n2 p6) p7, .BinOp (.Constant (.int 1) n3 p8) .Add (.Call (.Name (S "_law_take") p9) [.Name (S "draws") p10, .Constant (.int 6) n4 p11] [] p12) p13] [] p14) σ (dq (pairS st).1) (upd (upd σ (S "draws") (.own ad (.dr Γ.w (takeS 21 st).2.1 (takeS 21 st).2.2))) (S "draws") (.own ad (.dr Γ.w (pairS st).2.1 (pairS st).2.2))) :=
  E.call (L.cons (E.bin (E.take (st := st) hx (by decide) (by decide) h1) E.int B.sub) (L.cons (E.bin E.int (E.take (st := (takeS 21 st).2) (ad := ad) (by rw [lookup_upd, if_pos rfl]) (by decide) (by decide) h1) B.add) L.nil)) c_lowest h2
theorem c_law {k : Nat} {script : List Int} (hs : script.length ≤ 63) (H : ∀ st : DS, LawOk (polyOf (madeS st).1.1 (madeS st).1.2) (rootsOf (madeS st).1.2)) : Cf Γ (k + 10) (S "law") [il script] (.bool true) := by
  obtain ⟨g, m, hd⟩ := c_law_draws (Γ := Γ) (k := k + 8) (script := script) (by omega)
  refine ⟨of_law (o := .ret _) (X.ok (X.assignO (O.call (L.cons (E.name rfl) L.nil) hd rfl) (by walk_at "st") fun ad => ?_))⟩
  have HH := H (g, m)
  refine X.unpack (E.callD (gr := g) (mx := m) rfl L.nil (c_law_made (k := k + 5) (st := (g, m))) rfl) (A.tup (AL.cons (A.name (by walk_at "st")) (AL.cons (A.name (by walk_at "st")) AL.nil))) ?_
  generalize madeS (g, m) = ms at HH ⊢
  obtain ⟨cf, st⟩ := ms
  generalize polyOf cf.1 cf.2 = f at HH ⊢
  generalize rootsOf cf.2 = told at HH ⊢
  obtain ⟨r, left, xs, found, K, i1, i2, i3, i4, i5, i6, i7, i8, i9, i10⟩ := HH.iso
  have hpo : ∀ p ∈ sortedS (xs.map (fun x => (x, x)) ++ found.map K), Okq 4000 p.1 ∧ Okq 4000 p.2 := fun p hp => by
    rcases sortedS_mem _ _ _ hp with h | h
    · cases h
    · rcases List.mem_append.mp h with h | h
      · obtain ⟨x, hx', rfl⟩ := List.mem_map.mp h
        exact ⟨(i5 x hx').mono (by omega), (i5 x hx').mono (by omega)⟩
      · obtain ⟨i, hi', rfl⟩ := List.mem_map.mp h
        exact i9 i hi'
  have hiso := c_isolate (Γ := Γ) (k := k) HH.ne HH.flen HH.simple i1 i2 i3 i4 i5 i6 i7 i8 i9
  generalize sortedS (xs.map (fun x => (x, x)) ++ found.map K) = pcs at i10 hpo hiso
  have htl := HH.tlen
  have cr : ∀ (x y : Pt), Okp 900 x → Okp 900 y → Cf Γ (k + 9) (S "count_roots") [il f, x.d, y.d] (.int (countRow (sturm (simpleS f)) x y)) := fun x y hx hy => c_count_roots HH.simple HH.rowok hx hy (by omega) (by omega)
  refine X.skip (T.conv (c' := false) (T.not (T.value (E.call (L.cons (E.call (L.cons (E.name rfl) L.nil) hiso rfl) (L.cons (E.name rfl) L.nil)) (c_pieces_right (k := k + 4) (n := 4000) i10 (by omega) (fun r hr => OkrAny.mono (HH.tok r hr) (by omega)) hpo (by omega)) rfl) R.bool)) rfl) ?_
  refine X.skip (T.conv (c' := false) (T.cmp (E.call (L.cons (E.name rfl) (L.cons E.str (L.cons E.str L.nil))) (cr .neg .pos trivial trivial) rfl) (E.bcall b_len (L.cons (E.name rfl) L.nil) (F.len (by simp; omega)) rfl) C.ne) (by simp [HH.cnt])) ?_
  refine X.forH (fun i => lwCtx (Γ := Γ) ad (drawsAt st i) f told) (I.range1 E.int (by omega) rfl) (by walk_at "has") (fun i d hd => ?_) ?_
  · obtain ⟨hi, rfl⟩ := rangeD_get hd
    refine ⟨_, A.name (by walk_at "st"), ?_⟩
    rw [show drawsAt st (i + 1) = (pairS (pairS (drawsAt st i)).2).2 from rfl]
    generalize drawsAt st i = st
    refine X.assign (e_pair (st := st) (ad := ad) rfl rfl rfl) (by walk_at "st") (X.assign (e_pair (st := (pairS st).2) (ad := ad) rfl rfl rfl) (by walk_at "st") ?_)
    have q1 := pairS_query st
    have q2 := pairS_query (pairS st).2
    generalize pairS st = a at q1 q2 ⊢
    generalize pairS a.2 = b at q2 ⊢
    obtain ⟨k1, k2⟩ := HH.query a.1 b.1 q1 q2
    have o1 := query_ok q1
    have o2 := query_ok q2
    refine X.unpack (E.conv (d' := .tup [dq (if ratLess a.1 b.1 = true then a.1 else b.1), dq (if ratLess a.1 b.1 = true then b.1 else a.1)]) (E.cond (c := ratLess a.1 b.1) (T.value (E.call (L.cons (E.name rfl) (L.cons (E.name rfl) L.nil)) (c_rat_less o1 o2 (by omega)) rfl) R.bool) (fun h => (E.tup (L.cons (E.name rfl) (L.cons (E.name rfl) L.nil)) (by walk_at "side"))) (fun h => (E.tup (L.cons (E.name rfl) (L.cons (E.name rfl) L.nil)) (by walk_at "side")))) (by split <;> rfl)) (A.tup (AL.cons (A.name (by walk_at "st")) (AL.cons (A.name (by walk_at "st")) AL.nil))) ?_
    have o3 : Okq 10 (if ratLess a.1 b.1 = true then a.1 else b.1) := by split <;> assumption
    have o4 : Okq 10 (if ratLess a.1 b.1 = true then b.1 else a.1) := by split <;> assumption
    generalize (if ratLess a.1 b.1 = true then a.1 else b.1) = lo at k1 k2 o3 ⊢
    generalize (if ratLess a.1 b.1 = true then b.1 else a.1) = hi' at k1 k2 o4 ⊢
    have m3 : Okp 900 (.fin lo) := Okq.mono o3 (by omega)
    have m4 : Okp 900 (.fin hi') := Okq.mono o4 (by omega)
    refine X.skip (T.conv (c' := false) (T.cmp (E.call (L.cons (E.name rfl) (L.cons (E.name rfl) (L.cons (E.name rfl) L.nil))) (cr (.fin lo) (.fin hi') m3 m4) rfl) (E.call (L.cons (E.name rfl) (L.cons (E.name rfl) (L.cons (E.name rfl) L.nil))) (c_counted (k := k + 5) (by omega) HH.tok o3 o4 (by omega)) rfl) C.ne) (by simp [k1])) ?_
    exact X.skip (T.conv (c' := false) (T.cmp (E.bin (E.call (L.cons (E.name rfl) (L.cons E.str (L.cons (E.name rfl) L.nil))) (cr .neg (.fin hi') trivial m4) rfl) (E.call (L.cons (E.name rfl) (L.cons (E.name rfl) (L.cons E.str L.nil))) (cr (.fin hi') .pos m4 trivial) rfl) B.add) (E.bcall b_len (L.cons (E.name rfl) L.nil) (F.len (by simp; omega)) rfl) C.ne) (by simp [k2])) (X.done (by walk_at "has"))
  · obtain ⟨hb1, hb2⟩ := okq_bound HH.bsm
    have hall := HH.rowok
    obtain ⟨hrp, hrow⟩ := hall.row
    have ch : ∀ x : Pt, Okp 900 x → Cf Γ (k + 9) (S "changes_at") [.list (llD (sturm (simpleS f))), x.d] (.int (changes (sgnAt x) (sturm (simpleS f)))) := fun x hx => c_changes_at (k := k + 5) hrow hrp hx (by omega) (by omega) (by omega)
    refine X.swapR (ns := [S "row", S "bound"]) rfl (M.d (E.call (L.cons (E.call (L.cons (E.name rfl) L.nil) (c_simple_part (k := k + 1) HH.simple) rfl) L.nil) (c_sturm_row (k := k + 3) (by have := hall.len; omega) (fun c hc => (hall.sm c hc).mono (by omega)) hall.st) rfl) (M.d (E.call (L.cons (E.name rfl) L.nil) (c_root_bound (k := k + 7) (by have := HH.flen; omega) HH.lead0 HH.sm (by omega)) rfl) M.nil)) (by walk_at "sts") (by decide +kernel) fun _ _ => ?_
    refine X.skip (T.conv (c' := false) (T.or (c := false) (c' := false) (T.conv (c' := false) (T.cmp (E.call (L.cons (E.name rfl) (L.cons (E.tup (L.cons (E.un (E.name rfl) (by walk_at "op")) (L.cons E.int L.nil)) (by walk_at "side")) L.nil)) (ch (.fin (-rootBound f, 1)) hb2) rfl) (E.call (L.cons (E.name rfl) (L.cons E.str L.nil)) (ch .neg trivial) rfl) C.ne) (by simp [HH.blow])) fun _ => (T.conv (c' := false) (T.cmp (E.call (L.cons (E.name rfl) (L.cons (E.tup (L.cons (E.name rfl) (L.cons E.int L.nil)) (by walk_at "side")) L.nil)) (ch (.fin (rootBound f, 1)) hb1) rfl) (E.call (L.cons (E.name rfl) (L.cons E.str L.nil)) (ch .pos trivial) rfl) C.ne) (by simp [HH.bhigh]))) rfl) ?_
    refine X.ret (E.conv (d' := .bool true) (E.cmp (E.call (L.cons (E.name rfl) (L.cons (E.tup (L.cons (E.un (E.name rfl) (by walk_at "op")) (L.cons E.int L.nil)) (by walk_at "side")) (L.cons (E.tup (L.cons (E.name rfl) (L.cons E.int L.nil)) (by walk_at "side")) L.nil))) (c_counted (n := 900) (k := k + 5) (lo := (-rootBound f, 1)) (hi := (rootBound f, 1)) (by omega) (fun r hr => OkrAny.mono (HH.tok r hr) (by omega)) hb2 hb1 (by omega)) rfl) (E.bcall b_len (L.cons (E.name rfl) L.nil) (F.len (by simp; omega)) rfl) C.eq) (by simp [HH.ball]))
end

section
open PySem PySem.W PyProof.Rows PySem.Calls
set_option maxRecDepth 100000
variable {Γ : Gl}


noncomputable def defOf : Stmt → Option DefRec
  | .FunctionDef n a b _ _ _ sc _ _ pos => some ⟨n, a, b, sc, pos⟩
  | _ => none
theorem ints_at {P : Params} {h : Heap} : ∀ {vs : List Value} {l : List Int}, WellAll P h vs (ofPys (l.map PyData.int)) → AtL h.get? vs (il' l)
  | vs, [], hw => by
    cases hw; exact rfl
  | vs, i :: l, hw => by
    rw [List.map_cons] at hw
    unfold ofPys ofPy at hw
    cases hw with
    | cons h1 h2 =>
      cases h1 with
      | int _ t => exact ⟨_, _, rfl, by unfold At; exact ⟨t, rfl⟩, ints_at h2⟩
theorem script_at {P : Params} {h : Heap} {v : Value} {l : List Int} (hw : Well P h v (ofPy (PyData.list (l.map PyData.int)))) : At h.get? v (il l) := by
  unfold ofPy at hw
  cases hw with
  | list h1 h2 => unfold At; exact ⟨_, _, _, rfl, h1, ints_at h2⟩
theorem link {Γ : Gl} {script : List Int} {v : Value} {s : Shared} {P : Params} {fa : Addr} (hs : script.length ≤ 63) (H : ∀ st : DS, LawOk (polyOf (madeS st).1.1 (madeS st).1.2) (rootsOf (madeS st).1.2))
    (h0 : Γ.h0 = s.heap) (G0 : GOk Γ.mg Γ.mb Γ.h0) (hm : Γ.mg (S "law") = some (.ref fa)) (hw : Well P s.heap v (ofPy (PyData.list (script.map PyData.int)))) {RR : Result → Shared → Prop}
    (hR : ∀ h' tk, (∀ b o, s.heap.get? b = some o → h'.get? b = some o) → RR (.ok (.ret (.bool true))) { s with heap := h', toks := tk }) :
    codeAny (model Γ.prog Γ.w) callerA (.call (.ref fa) ⟨[v], []⟩) RR s := by
  obtain ⟨f, o, fd, h1, h2, h3, h4⟩ := (c_law (Γ := Γ) (k := 0) hs H).ok G0
  rw [hm] at h1
  cases h1
  refine codeAny_mono (h4 callerA s.heap.get? s [v] (fun r s' => RR (.ok (.ret r)) s') ⟨rfl, by show 1 + 300 + (0 + 10) < 890; decide, by show 4 + 10 * (0 + 10) < 9800; decide⟩ (fun a o e => by rw [← h0]; exact e) (fun a o e => e) ⟨_, _, rfl, script_at hw, rfl⟩ fun r g' h' tk st hs ha => ?_) ?_
  · unfold At at ha
    subst ha
    exact hR h' tk fun b o e => (st.keep b o e (fun h => nomatch h)).1
  · rintro (e | r) s' hr
    · exact hr.elim
    · cases r with
      | ret r => exact hr
      | _ => exact hr.elim
end

end Mine
end

section
open PySem PySem.W PyProof.Rows PySem.Calls
namespace Mine

noncomputable def Bd (K y : Rat) : Prop := -K ≤ y ∧ y ≤ K
theorem Bd.mono {K L y : Rat} (h : Bd K y) (k : K ≤ L) : Bd L y := by unfold Bd at *; grind
theorem Bd.add {K L y z : Rat} (h : Bd K y) (k : Bd L z) : Bd (K + L) (y + z) := by unfold Bd at *; grind
theorem Bd.sub {K L y z : Rat} (h : Bd K y) (k : Bd L z) : Bd (K + L) (y - z) := by unfold Bd at *; grind
theorem Bd.neg {K y : Rat} (h : Bd K y) : Bd K (-y) := by unfold Bd at *; grind
theorem Bd.pos {K y : Rat} (h : Bd K y) : 0 ≤ K := by unfold Bd at *; grind
theorem Bd.mul {K L y z : Rat} (h : Bd K y) (k : Bd L z) : Bd (K * L) (y * z) := by
  obtain ⟨h1, h2⟩ := h
  obtain ⟨k1, k2⟩ := k
  have a1 : 0 ≤ (K - y) * (L - z) := Rat.mul_nonneg (by grind) (by grind)
  have a2 : 0 ≤ (K + y) * (L + z) := Rat.mul_nonneg (by grind) (by grind)
  have a3 : 0 ≤ (K - y) * (L + z) := Rat.mul_nonneg (by grind) (by grind)
  have a4 : 0 ≤ (K + y) * (L - z) := Rat.mul_nonneg (by grind) (by grind)
  unfold Bd
  constructor <;> grind
theorem Bd.self (y : Rat) : ∃ K, 0 < K ∧ Bd K y := by
  by_cases h : 0 ≤ y
  · exact ⟨y + 1, by grind, by unfold Bd; grind⟩
  · exact ⟨-y + 1, by grind, by unfold Bd; grind⟩

noncomputable def ev : List Int → Rat → Rat
  | [], _ => 0
  | c :: l, x => (c : Rat) + x * ev l x
noncomputable def evd : List Int → Rat → Rat
  | [], _ => 0
  | c :: l, x => ev l x + x * evd l x
theorem ev_bd (M : Rat) (hM : 0 ≤ M) : ∀ p : List Int, ∃ K, 0 < K ∧ ∀ x, Bd M x → Bd K (ev p x)
  | [] => ⟨1, by grind, fun x _ => by unfold Bd ev; grind⟩
  | c :: l => by
    obtain ⟨K, k0, k⟩ := ev_bd M hM l
    obtain ⟨C, c0, hc⟩ := Bd.self (c : Rat)
    have := Rat.mul_nonneg hM (Rat.le_of_lt k0)
    exact ⟨C + M * K, by grind, fun x hx => by rw [ev]; exact hc.add (hx.mul (k x hx))⟩
theorem evd_bd (M : Rat) (hM : 0 ≤ M) : ∀ p : List Int, ∃ K, 0 < K ∧ ∀ x, Bd M x → Bd K (evd p x)
  | [] => ⟨1, by grind, fun x _ => by unfold Bd evd; grind⟩
  | c :: l => by
    obtain ⟨K, k0, k⟩ := evd_bd M hM l
    obtain ⟨C, c0, hc⟩ := ev_bd M hM l
    have := Rat.mul_nonneg hM (Rat.le_of_lt k0)
    exact ⟨C + M * K, by grind, fun x hx => by rw [evd]; exact (hc x hx).add (hx.mul (k x hx))⟩
theorem ev_lip (M : Rat) (hM : 0 ≤ M) : ∀ p : List Int, ∃ K, 0 < K ∧ ∀ x y, Bd M x → Bd M y → x ≤ y → Bd (K * (y - x)) (ev p y - ev p x)
  | [] => ⟨1, by grind, fun x y _ _ h => by unfold Bd ev; grind⟩
  | c :: l => by
    obtain ⟨K, k0, k⟩ := ev_lip M hM l
    obtain ⟨C, c0, hc⟩ := ev_bd M hM l
    have := Rat.mul_nonneg hM (Rat.le_of_lt k0)
    refine ⟨M * K + C, by grind, fun x y hx hy h => ?_⟩
    have h1 := hy.mul (k x y hx hy h)
    have h2 : Bd (C * (y - x)) (ev l x * (y - x)) := (hc x hx).mul (by unfold Bd; grind)
    have h3 := h1.add h2
    rw [ev, ev]
    have e1 : (c : Rat) + y * ev l y - (c + x * ev l x) = y * (ev l y - ev l x) + ev l x * (y - x) := by grind
    have e2 : (M * K + C) * (y - x) = M * (K * (y - x)) + C * (y - x) := by grind
    rw [e1, e2]; exact h3
theorem ev_taylor (M : Rat) (hM : 0 ≤ M) : ∀ p : List Int, ∃ K, 0 < K ∧ ∀ x y, Bd M x → Bd M y → Bd (K * ((y - x) * (y - x))) (ev p y - ev p x - (y - x) * evd p x)
  | [] => ⟨1, by grind, fun x y _ _ => by
    have : 0 ≤ (y - x) * (y - x) := by
      by_cases h : 0 ≤ y - x
      · exact Rat.mul_nonneg h h
      · have := Rat.mul_nonneg (show 0 ≤ x - y by grind) (show 0 ≤ x - y by grind)
        grind
    unfold Bd ev evd; grind⟩
  | c :: l => by
    obtain ⟨K, k0, k⟩ := ev_taylor M hM l
    obtain ⟨C, c0, hc⟩ := evd_bd M hM l
    have := Rat.mul_nonneg hM (Rat.le_of_lt k0)
    refine ⟨M * K + C, by grind, fun x y hx hy => ?_⟩
    have h1 := hy.mul (k x y hx hy)
    have h0 : 0 ≤ (y - x) * (y - x) := by
      by_cases h : 0 ≤ y - x
      · exact Rat.mul_nonneg h h
      · have := Rat.mul_nonneg (show 0 ≤ x - y by grind) (show 0 ≤ x - y by grind)
        grind
    have h2 : Bd (C * ((y - x) * (y - x))) (evd l x * ((y - x) * (y - x))) := (hc x hx).mul (by unfold Bd; grind)
    have h3 := h1.add h2
    rw [ev, ev, evd]
    have e1 : (c : Rat) + y * ev l y - (c + x * ev l x) - (y - x) * (ev l x + x * evd l x) = y * (ev l y - ev l x - (y - x) * evd l x) + evd l x * ((y - x) * (y - x)) := by grind
    have e2 : (M * K + C) * ((y - x) * (y - x)) = M * (K * ((y - x) * (y - x))) + C * ((y - x) * (y - x)) := by grind
    rw [e1, e2]; exact h3

noncomputable def sg (x : Rat) : Int := if 0 < x then 1 else if x < 0 then -1 else 0
noncomputable def Big (e x : Rat) : Prop := e ≤ x ∨ x ≤ -e
theorem sg_big {e x y d : Rat} (h : Big e x) (h1 : Bd d (y - x)) (h2 : d < e) : sg x = sg y ∧ sg x ≠ 0 := by
  unfold Big Bd at *
  unfold sg
  rcases h with h | h
  · rw [if_pos (by grind), if_pos (by grind)]; exact ⟨rfl, by decide⟩
  · rw [if_neg (by grind), if_pos (by grind), if_neg (by grind), if_pos (by grind)]; exact ⟨rfl, by decide⟩
theorem sg_stays (M : Rat) (hM : 0 ≤ M) (p : List Int) (e : Rat) (he : 0 < e) : ∃ d, 0 < d ∧ ∀ x y, Bd M x → Bd M y → x ≤ y → y - x ≤ d → Big e (ev p x) → sg (ev p x) = sg (ev p y) ∧ sg (ev p x) ≠ 0 := by
  obtain ⟨K, k0, k⟩ := ev_lip M hM p
  have hi := Rat.inv_pos.mpr k0
  have hk : K * K⁻¹ = 1 := Rat.mul_inv_cancel K (by grind)
  refine ⟨e / 2 * K⁻¹, Rat.mul_pos (by grind) hi, fun x y hx hy h hd hb => sg_big hb (k x y hx hy h) ?_⟩
  have : K * (y - x) ≤ K * (e / 2 * K⁻¹) := Rat.mul_le_mul_of_nonneg_left hd (Rat.le_of_lt k0)
  have e2 : K * (e / 2 * K⁻¹) = e / 2 := by grind
  grind
end Mine
end

section
open PySem PySem.W PyProof.Rows PySem.Calls
namespace Mine

theorem ev_ht (a : List Int) (x : Rat) : ev a x = (a.getD 0 0 : Rat) + x * ev a.tail x := by
  cases a with
  | nil => simp [ev]; grind
  | cons c l => simp [ev]
theorem tail_getD (a : List Int) (i : Nat) : a.tail.getD i 0 = a.getD (i + 1) 0 := by cases a <;> simp
theorem ev_comb (s t : Int) : ∀ (n : Nat) (c a b : List Int), c.length ≤ n → a.length ≤ n → b.length ≤ n → (∀ i, c.getD i 0 = s * a.getD i 0 + t * b.getD i 0) → ∀ x, ev c x = (s : Rat) * ev a x + (t : Rat) * ev b x
  | 0, c, a, b, h1, h2, h3, h, x => by
    rw [List.length_eq_zero_iff.mp (Nat.le_zero.mp h1), List.length_eq_zero_iff.mp (Nat.le_zero.mp h2), List.length_eq_zero_iff.mp (Nat.le_zero.mp h3)]
    simp [ev]; grind
  | n + 1, c, a, b, h1, h2, h3, h, x => by
    have ih := ev_comb s t n c.tail a.tail b.tail (by rw [List.length_tail]; omega) (by rw [List.length_tail]; omega) (by rw [List.length_tail]; omega) (fun i => by rw [tail_getD, tail_getD, tail_getD]; exact h (i + 1)) x
    rw [ev_ht c, ev_ht a, ev_ht b, ih, h 0, Rat.intCast_add, Rat.intCast_mul, Rat.intCast_mul]
    grind
theorem ev_comb' {s t : Int} {c a b : List Int} (h : ∀ i, c.getD i 0 = s * a.getD i 0 + t * b.getD i 0) (x : Rat) : ev c x = (s : Rat) * ev a x + (t : Rat) * ev b x :=
  ev_comb s t (c.length + a.length + b.length) c a b (by omega) (by omega) (by omega) h x
theorem ev_congr {a b : List Int} (h : ∀ i, a.getD i 0 = b.getD i 0) (x : Rat) : ev a x = ev b x := by
  have := ev_comb' (s := 1) (t := 0) (c := a) (a := b) (b := []) (fun i => by rw [h]; omega) x
  rw [this]; simp [ev]; grind
theorem ev_zadd (a b : List Int) (x : Rat) : ev (zadd a b) x = ev a x + ev b x := by
  rw [ev_comb' (s := 1) (t := 1) (a := a) (b := b) (fun i => by rw [zadd_getD]; omega) x]; grind
theorem ev_zsub (a b : List Int) (x : Rat) : ev (zsub a b) x = ev a x - ev b x := by
  rw [ev_comb' (s := 1) (t := -1) (a := a) (b := b) (fun i => by rw [zsub_getD]; omega) x]; grind
theorem ev_zneg (a : List Int) (x : Rat) : ev (zneg a) x = - ev a x := by
  rw [ev_comb' (s := -1) (t := 0) (a := a) (b := []) (fun i => by rw [zneg_getD]; omega) x]; grind
theorem ev_zscale (a : List Int) (c : Int) (x : Rat) : ev (zscale a c) x = (c : Rat) * ev a x := by
  rw [ev_comb' (s := c) (t := 0) (a := a) (b := []) (fun i => by rw [zscale_getD, Int.mul_comm]; omega) x]; grind
theorem ev_zraise (a : List Int) (m : Nat) (x : Rat) : ev (zraise a m) x = x ^ m * ev a x := by
  unfold zraise
  split
  · rename_i h; subst h; simp [ev]
  · induction m with
    | zero => simp
    | succ m ih =>
      rw [List.replicate_succ, List.cons_append, ev, ih, Rat.pow_succ]
      grind
theorem psGo_rel {b : List Int} : ∀ (n : Nat) (rest found : List Int) (left : Int), ∃ (k : Nat) (q : List Int), k ≤ n ∧ (psGo b (lead b) n rest found left).2.2 = left - k ∧ ∀ x, ((lead b ^ k : Int) : Rat) * ev rest x = ev q x * ev b x + ev (psGo b (lead b) n rest found left).2.1 x
  | 0, rest, found, left => ⟨0, [], Nat.le_refl _, by simp [psGo], fun x => by simp [psGo, ev]; grind⟩
  | n + 1, rest, found, left => by
    unfold psGo
    split
    · obtain ⟨k, q, h1, h2, h3⟩ := psGo_rel n (zsub (zscale rest (lead b)) (zraise (zscale b (lead rest)) (rest.length - b.length))) (zsub (zscale found (lead b)) (zraise [-lead rest] (rest.length - b.length))) (left - 1)
      refine ⟨k + 1, zadd q (zscale (zraise [lead rest] (rest.length - b.length)) (lead b ^ k)), by omega, by rw [h2]; omega, fun x => ?_⟩
      have h4 := h3 x
      rw [ev_zsub, ev_zscale, ev_zraise, ev_zscale] at h4
      rw [ev_zadd, ev_zscale, ev_zraise, Int.pow_succ, Rat.intCast_mul]
      simp only [ev]
      generalize ev (psGo b (lead b) n _ _ _).2.1 x = r at h4 ⊢
      generalize x ^ (rest.length - b.length) = p at h4 ⊢
      grind
    · exact ⟨0, [], by omega, by simp, fun x => by simp [ev]; grind⟩
theorem psRest_rel (a b : List Int) : ∃ q : List Int, ∀ x, ((lead b ^ psMany a b : Int) : Rat) * ev a x = ev q x * ev b x + ev (psRest a b) x := by
  obtain ⟨k, q, h1, h2, h3⟩ := psGo_rel (b := b) (psMany a b) a [] (psMany a b)
  refine ⟨zscale q (lead b ^ (psMany a b - k)), fun x => ?_⟩
  unfold psRest psRun
  rw [h2, ev_zscale, ev_zscale, show ((psMany a b : Nat) : Int) - (k : Nat) = ((psMany a b - k : Nat) : Int) by omega, Int.toNat_natCast]
  have e : lead b ^ psMany a b = lead b ^ (psMany a b - k) * lead b ^ k := by rw [← Int.pow_add]; congr 1; omega
  rw [e, Rat.intCast_mul]
  have := h3 x
  grind
theorem gcdAll_dvd (p : List Int) : ∀ c ∈ p, gcdAll p ∣ c := by
  unfold gcdAll
  have key : ∀ (l : List Int) (g : Int), (l.foldl gcdI g ∣ g) ∧ ∀ c ∈ l, l.foldl gcdI g ∣ c := by
    intro l
    induction l with
    | nil => intro g; exact ⟨Int.dvd_refl _, fun c h => nomatch h⟩
    | cons d l ih =>
      intro g
      obtain ⟨h1, h2⟩ := ih (gcdI g d)
      refine ⟨Int.dvd_trans h1 (Int.gcd_dvd_left ..), fun c hc => ?_⟩
      rcases List.mem_cons.mp hc with rfl | hc
      · exact Int.dvd_trans h1 (Int.gcd_dvd_right ..)
      · exact h2 c hc
  exact (key p 0).2
theorem getD_dvd {g : Int} {p : List Int} (h : ∀ c ∈ p, g ∣ c) (i : Nat) : g ∣ p.getD i 0 := by
  rw [List.getD_eq_getElem?_getD]
  cases e : p[i]? with
  | none => exact Int.dvd_zero _
  | some c => exact h c (List.mem_of_getElem? e)
theorem ev_div {g : Int} {p : List Int} (h : ∀ c ∈ p, g ∣ c) (x : Rat) : ev p x = (g : Rat) * ev (p.map (·.fdiv g)) x := by
  rw [ev_comb' (s := g) (t := 0) (c := p) (a := p.map (·.fdiv g)) (b := []) (fun i => by
    rw [map_getD (·.fdiv g) (by simp), Int.mul_fdiv_cancel' (getD_dvd h i)]; omega) x]; grind
theorem less1_rel (p : List Int) : ∃ c : Int, 0 < c ∧ ∀ x, ev p x = (c : Rat) * ev (less1 p) x := by
  unfold less1
  split
  · exact ⟨gcdAll p, by omega, ev_div (gcdAll_dvd p)⟩
  · exact ⟨1, by decide, fun x => by grind⟩
theorem pow_pos' {l : Int} (h : 0 < l) : ∀ n : Nat, 0 < l ^ n
  | 0 => by simp
  | n + 1 => by rw [Int.pow_succ]; exact Int.mul_pos (pow_pos' h n) h
theorem pow_neg' {l : Int} (h : l < 0) : ∀ n : Nat, (n % 2 = 0 → 0 < l ^ n) ∧ (n % 2 = 1 → l ^ n < 0)
  | 0 => by simp
  | n + 1 => by
    obtain ⟨h1, h2⟩ := pow_neg' h n
    rw [Int.pow_succ]
    exact ⟨fun e => Int.mul_pos_of_neg_of_neg (h2 (by omega)) h, fun e => Int.mul_neg_of_pos_of_neg (h1 (by omega)) h⟩
theorem nextRow_rel {a b : List Int} (hb : lead b ≠ 0) : ∃ (q : List Int) (α β : Int), 0 < α ∧ 0 < β ∧ ∀ x, (α : Rat) * ev a x = ev q x * ev b x - (β : Rat) * ev (nextRow a b) x := by
  obtain ⟨q, hq⟩ := psRest_rel a b
  unfold nextRow
  have e : ((psMany a b : Nat) : Int).fmod 2 = ((psMany a b % 2 : Nat) : Int) := by rw [Int.fmod_eq_emod_of_nonneg _ (by decide)]; omega
  split
  · rename_i h
    obtain ⟨β, b1, b2⟩ := less1_rel (psRest a b)
    refine ⟨zneg q, -(lead b ^ psMany a b), β, ?_, b1, fun x => ?_⟩
    · have := (pow_neg' h.2 (psMany a b)).2 (by omega); omega
    · rw [← b2, ev_zneg, Rat.intCast_neg]
      have := hq x
      grind
  · rename_i h
    obtain ⟨β, b1, b2⟩ := less1_rel (zneg (psRest a b))
    refine ⟨q, lead b ^ psMany a b, β, ?_, b1, fun x => ?_⟩
    · by_cases hp : 0 < lead b
      · exact pow_pos' hp _
      · exact (pow_neg' (by omega) _).1 (by omega)
    · rw [← b2, ev_zneg]
      have := hq x
      grind
end Mine
end

section
open PySem PySem.W PyProof.Rows PySem.Calls
namespace Mine

noncomputable def Tr (p : List Int) : Prop := p ≠ [] → lead p ≠ 0
theorem trimSz_lead (l : List Int) : ∀ n, trimSz l n = 0 ∨ l.getD (trimSz l n - 1) 0 ≠ 0
  | 0 => .inl rfl
  | n + 1 => by
    unfold trimSz
    split
    · exact trimSz_lead l n
    · rename_i h; exact .inr h
theorem tr_trim (l : List Int) : Tr (trim l) := by
  intro h
  have hle := trimSz_le l l.length
  have hl : (trim l).length = trimSz l l.length := by unfold trim; rw [List.length_take]; omega
  have h0 : trimSz l l.length ≠ 0 := fun e => h (List.length_eq_zero_iff.mp (by rw [hl, e]))
  unfold lead
  rw [hl, trim_getD]
  exact (trimSz_lead l l.length).resolve_left h0
theorem tr_map {f : Int → Int} (h0 : f 0 = 0) {p : List Int} (hp : Tr p) (hf : ∀ c ∈ p, c ≠ 0 → f c ≠ 0) : Tr (p.map f) := by
  intro h
  have hne : p ≠ [] := fun e => h (by rw [e]; rfl)
  have h1 := hp hne
  unfold lead at *
  rw [List.length_map, map_getD f h0]
  refine hf _ ?_ h1
  have : p.length - 1 < p.length := by have := List.length_pos_iff.mpr hne; omega
  rw [List.getD_eq_getElem?_getD, List.getElem?_eq_getElem this]
  exact List.getElem_mem this
theorem tr_zscale {p : List Int} (hp : Tr p) (c : Int) : Tr (zscale p c) := by
  unfold zscale
  split
  · intro h; exact absurd rfl h
  · rename_i h; exact tr_map (by simp) hp (fun d _ hd => Int.mul_ne_zero hd h)
theorem tr_zneg {p : List Int} (hp : Tr p) : Tr (zneg p) := tr_map (by simp) hp (fun d _ hd => by omega)
theorem tr_fdiv {p : List Int} {g : Int} (hp : Tr p) (hg : ∀ c ∈ p, g ∣ c) : Tr (p.map (·.fdiv g)) := tr_map (by simp) hp (fun d hd h0 => by
  intro e
  have := Int.mul_fdiv_cancel' (hg d hd)
  rw [e] at this; omega)
theorem tr_less1 {p : List Int} (hp : Tr p) : Tr (less1 p) := by
  unfold less1
  split
  · exact tr_fdiv hp (gcdAll_dvd p)
  · exact hp
theorem tr_psGo {b : List Int} : ∀ (n : Nat) (rest found : List Int) (left : Int), Tr rest → Tr (psGo b (lead b) n rest found left).2.1
  | 0, rest, _, _, h => h
  | n + 1, rest, found, left, h => by
    unfold psGo
    split
    · exact tr_psGo n _ _ _ (tr_trim _)
    · exact h
theorem tr_psRest {a b : List Int} (ha : Tr a) : Tr (psRest a b) := tr_zscale (tr_psGo _ _ _ _ ha) _
theorem tr_nextRow {a b : List Int} (ha : Tr a) : Tr (nextRow a b) := by
  unfold nextRow
  split
  · exact tr_less1 (tr_psRest ha)
  · exact tr_less1 (tr_zneg (tr_psRest ha))

inductive RelV : Int → List Int → List Int → Prop
  | nil {e : Int} : RelV e [] []
  | big {e u : Int} {s t : List Int} : (u = 1 ∨ u = -1) → RelV u s t → RelV e (u :: s) (u :: t)
  | small {e u v : Int} {s t : List Int} : (u = 0 ∨ u = 1 ∨ u = -1) → (v = 0 ∨ v = 1 ∨ v = -1) → RelV (-e) s t → RelV e (u :: -e :: s) (v :: -e :: t)
noncomputable def nz (l : List Int) : List Int := l.filter (· ≠ 0)
theorem nz_cons (u : Int) (l : List Int) : nz (u :: l) = if u = 0 then nz l else u :: nz l := by
  unfold nz; rw [List.filter_cons]; by_cases h : u = 0 <;> simp [h]
theorem chg_cons (a b : Int) (l : List Int) : chg (a :: b :: l) = (if b ≠ a then 1 else 0) + chg (b :: l) := rfl
theorem RelV.chg {e : Int} {s t : List Int} (h : RelV e s t) : (e = 1 ∨ e = -1) → chg (e :: nz s) = chg (e :: nz t) := by
  induction h with
  | nil => intro _; rfl
  | @big e u s t hu r ih =>
    intro he
    have hu0 : ¬ u = 0 := by omega
    rw [nz_cons, nz_cons, if_neg hu0, if_neg hu0, chg_cons, chg_cons, ih hu]
  | @small e u v s t hu hv r ih =>
    intro he
    have he0 : ¬ -e = 0 := by omega
    have key : ∀ (u : Int) (l : List Int), (u = 0 ∨ u = 1 ∨ u = -1) → Mine.chg (e :: nz (u :: -e :: l)) = 1 + Mine.chg (-e :: nz l) := by
      intro u l hu
      rw [nz_cons, nz_cons, if_neg he0]
      split
      · rw [chg_cons, if_pos (by omega)]
      · rw [chg_cons, chg_cons]
        rcases hu with h | h | h <;> rcases he with h' | h' <;> subst h <;> subst h' <;> simp_all
    rw [key u s hu, key v t hv, ih (by omega)]
theorem sg_cases (x : Rat) : sg x = 0 ∨ sg x = 1 ∨ sg x = -1 := by
  unfold sg
  split
  · simp
  · split <;> simp
theorem sg_one {x : Rat} (h : sg x ≠ 0) : sg x = 1 ∨ sg x = -1 := (sg_cases x).resolve_left h
theorem least2 {a b : Rat} (ha : 0 < a) (hb : 0 < b) : ∃ d : Rat, 0 < d ∧ d ≤ a ∧ d ≤ b := by
  by_cases h : a ≤ b
  · exact ⟨a, ha, Rat.le_refl, h⟩
  · exact ⟨b, hb, by grind, Rat.le_refl⟩
theorem chain_rel (M : Rat) (hM : 0 ≤ M) : ∀ (n : Nat) (a b : List Int), b.length ≤ n → Tr a → Tr b → ∀ θ : Rat, 0 < θ → ∃ δ : Rat, 0 < δ ∧ ∀ x y, Bd M x → Bd M y → x ≤ y → y - x ≤ δ → Big θ (ev a x) →
    RelV (sg (ev a x)) ((stTail n a b).map fun p => sg (ev p x)) ((stTail n a b).map fun p => sg (ev p y))
  | 0, a, b, hn, ta, tb, θ, hθ => ⟨1, by grind, fun x y _ _ _ _ _ => RelV.nil⟩
  | n + 1, a, b, hn, ta, tb, θ, hθ => by
    by_cases hb : b = []
    · refine ⟨1, by grind, fun x y _ _ _ _ _ => ?_⟩
      rw [stTail, if_pos hb]; exact RelV.nil
    · obtain ⟨q, α, β, hα, hβ, hrel⟩ := nextRow_rel (a := a) (tb hb)
      have hα' : (0 : Rat) < α := Rat.intCast_pos.mpr hα
      have hβ' : (0 : Rat) < β := Rat.intCast_pos.mpr hβ
      obtain ⟨K, k0, hK⟩ := ev_bd M hM q
      have ki := Rat.inv_pos.mpr k0
      have kk : K * K⁻¹ = 1 := Rat.mul_inv_cancel K (by grind)
      have bi := Rat.inv_pos.mpr hβ'
      have bb : (β : Rat) * (β : Rat)⁻¹ = 1 := Rat.mul_inv_cancel _ (by grind)
      have hαθ : 0 < (α : Rat) * θ := Rat.mul_pos hα' hθ
      have hη : 0 < (α : Rat) * θ / 2 * K⁻¹ := Rat.mul_pos (by grind) ki
      have hKη : K * ((α : Rat) * θ / 2 * K⁻¹) = (α : Rat) * θ / 2 := by grind
      have hc : 0 < (α : Rat) * θ / 2 * (β : Rat)⁻¹ := Rat.mul_pos (by grind) bi
      have hβc : (β : Rat) * ((α : Rat) * θ / 2 * (β : Rat)⁻¹) = (α : Rat) * θ / 2 := by grind
      have hcl := nextRow_len (a := a) hb
      have tc : Tr (nextRow a b) := tr_nextRow ta
      obtain ⟨δ1, d1, D1⟩ := chain_rel M hM n b (nextRow a b) (by omega) tb tc _ hη
      obtain ⟨δ2, d2, D2⟩ := sg_stays M hM b _ hη
      obtain ⟨δ4, d4, D4⟩ := sg_stays M hM (nextRow a b) _ hc
      have H3 : ∃ δ : Rat, 0 < δ ∧ ∀ x y, Bd M x → Bd M y → x ≤ y → y - x ≤ δ → Big ((α : Rat) * θ / 2 * (β : Rat)⁻¹) (ev (nextRow a b) x) → nextRow a b ≠ [] →
          ∃ r, (stTail n b (nextRow a b)) = nextRow a b :: r ∧ RelV (sg (ev (nextRow a b) x)) (r.map fun p => sg (ev p x)) (r.map fun p => sg (ev p y)) := by
        by_cases hne : nextRow a b = []
        · exact ⟨1, by grind, fun x y _ _ _ _ _ hne' => absurd hne hne'⟩
        cases n with
        | zero => exact absurd (List.length_eq_zero_iff.mp (by omega)) hne
        | succ m =>
          obtain ⟨δ3, d3, D3⟩ := chain_rel M hM m (nextRow a b) (nextRow b (nextRow a b)) (by
            have := nextRow_len (a := b) hne; omega) tc (tr_nextRow tb) _ hc
          exact ⟨δ3, d3, fun x y hx hy h hd hb' hne => ⟨_, by rw [stTail, if_neg hne], D3 x y hx hy h hd hb'⟩⟩
      obtain ⟨δ3, d3, D3⟩ := H3
      obtain ⟨e1, p1, p2, p3⟩ := least2 d1 d2
      obtain ⟨e2, p4, p5, p6⟩ := least2 d3 d4
      obtain ⟨δ, p7, p8, p9⟩ := least2 p1 p4
      refine ⟨δ, p7, fun x y hx hy hxy hd hbig => ?_⟩
      rw [stTail, if_neg hb, List.map_cons, List.map_cons]
      by_cases hbb : Big ((α : Rat) * θ / 2 * K⁻¹) (ev b x)
      · obtain ⟨s1, s2⟩ := D2 x y hx hy hxy (by grind) hbb
        rw [← s1]
        exact RelV.big (sg_one s2) (D1 x y hx hy hxy (by grind) hbb)
      · have hbd : Bd ((α : Rat) * θ / 2 * K⁻¹) (ev b x) := by unfold Big at hbb; unfold Bd; grind
        have hqb := (hK x hx).mul hbd
        rw [hKη] at hqb
        have hr := hrel x
        have hcx : Big ((α : Rat) * θ / 2 * (β : Rat)⁻¹) (ev (nextRow a b) x) ∧ sg (ev (nextRow a b) x) = - sg (ev a x) := by
          rcases hbig with hbig | hbig
          · have h1 : (α : Rat) * θ ≤ α * ev a x := Rat.mul_le_mul_of_nonneg_left hbig (Rat.le_of_lt hα')
            have h2 : (β : Rat) * ev (nextRow a b) x ≤ (β : Rat) * -((α : Rat) * θ / 2 * (β : Rat)⁻¹) := by unfold Bd at hqb; grind
            have h3 := Rat.le_of_mul_le_mul_left h2 hβ'
            refine ⟨.inr h3, ?_⟩
            unfold sg; rw [if_neg (by grind), if_pos (by grind), if_pos (by grind)]
          · have h1 : (α : Rat) * ev a x ≤ α * -θ := Rat.mul_le_mul_of_nonneg_left hbig (Rat.le_of_lt hα')
            have h2 : (β : Rat) * ((α : Rat) * θ / 2 * (β : Rat)⁻¹) ≤ (β : Rat) * ev (nextRow a b) x := by unfold Bd at hqb; grind
            have h3 := Rat.le_of_mul_le_mul_left h2 hβ'
            refine ⟨.inl h3, ?_⟩
            unfold sg; rw [if_pos (by grind), if_neg (by grind), if_pos (by grind)]; rfl
        have hne : nextRow a b ≠ [] := fun e => by
          have := hcx.1
          rw [e] at this; unfold Big ev at this; grind
        obtain ⟨s1, s2⟩ := D4 x y hx hy hxy (by grind) hcx.1
        obtain ⟨r, r1, r2⟩ := D3 x y hx hy hxy (by grind) hcx.1 hne
        rw [r1, List.map_cons, List.map_cons, ← s1]
        rw [hcx.2] at r2 ⊢
        exact RelV.small (sg_cases _) (sg_cases _) r2
end Mine
end

section
open PySem PySem.W PyProof.Rows PySem.Calls
namespace Mine

structure Cut (c : Rat → Int) : Prop where
  val : ∀ x, c x = 0 ∨ c x = 1 ∨ c x = -1
  mono : ∀ x y, x ≤ y → c x ≤ c y
  strict : ∀ x y, x < y → c x = 0 → c y = 1
noncomputable abbrev Cuts := List (Rat → Int)
noncomputable def prodC (R : Cuts) (x : Rat) : Int := R.foldr (fun c p => c x * p) 1
noncomputable def inI (x y : Rat) (c : Rat → Int) : Bool := c x == -1 && decide (0 ≤ c y)
noncomputable def cnt (R : Cuts) (x y : Rat) : Nat := R.countP (inI x y)
noncomputable def zer (R : Cuts) (x : Rat) : Nat := R.countP (fun c => c x == 0)
theorem prodC_cons (c : Rat → Int) (R : Cuts) (x : Rat) : prodC (c :: R) x = c x * prodC R x := rfl
theorem prod_ne {R : Cuts} {x : Rat} (h : zer R x = 0) : prodC R x ≠ 0 := by
  induction R with
  | nil => show (1 : Int) ≠ 0; decide
  | cons c R ih =>
    unfold zer at h ih
    rw [List.countP_cons] at h
    rw [prodC_cons]
    refine Int.mul_ne_zero ?_ (ih (by omega))
    intro e; simp [e] at h
theorem mem3 {a : Int} (h : a = 0 ∨ a = 1 ∨ a = -1) : a ∈ ([0, 1, -1] : List Int) := by
  rcases h with rfl | rfl | rfl <;> decide
theorem tri1 : ∀ a ∈ ([0, 1, -1] : List Int), ∀ b ∈ ([0, 1, -1] : List Int), a ≤ b → (a == -1 && decide (0 ≤ b)) = false → a ≠ 0 → a = b := by decide
theorem tri2 : ∀ a ∈ ([0, 1, -1] : List Int), ∀ b ∈ ([0, 1, -1] : List Int), (a == -1 && decide (0 ≤ b)) = true → b ≠ 0 → a = -1 ∧ b = 1 := by decide
theorem tri3 : ∀ a ∈ ([0, 1, -1] : List Int), ∀ b ∈ ([0, 1, -1] : List Int), ∀ c ∈ ([0, 1, -1] : List Int), a ≤ b → b ≤ c → (if (a == -1 && decide (0 ≤ c)) = true then 1 else 0) = (if (a == -1 && decide (0 ≤ b)) = true then 1 else 0) + (if (b == -1 && decide (0 ≤ c)) = true then 1 else 0) := by decide
theorem tri4 : ∀ w ∈ ([0, 1, -1] : List Int), ∀ x ∈ ([0, 1, -1] : List Int), ∀ y ∈ ([0, 1, -1] : List Int), w ≤ x → x ≤ y → (w = 0 → x = 1) → (if (x == -1 && decide (0 ≤ y)) = true then 1 else 0) + (if (x == 0) = true then 1 else 0) ≤ (if (w == -1 && decide (0 ≤ y)) = true then 1 else 0) := by decide
theorem prod_none {R : Cuts} (hR : ∀ c ∈ R, Cut c) {x y : Rat} (hxy : x ≤ y) (h : cnt R x y = 0) : prodC R x = 0 ∨ prodC R x = prodC R y := by
  induction R with
  | nil => exact .inr rfl
  | cons c R ih =>
    unfold cnt at h ih
    rw [List.countP_cons] at h
    have hc := hR c (.head _)
    have hv := hc.val x
    have hw := hc.val y
    have hm := hc.mono x y hxy
    have hi : inI x y c = false := by
      cases e : inI x y c with
      | false => rfl
      | true => simp [e] at h
    unfold inI at hi
    rcases ih (fun d hd => hR d (.tail _ hd)) (by omega) with h1 | h1
    · left; rw [prodC_cons, h1, Int.mul_zero]
    · rw [prodC_cons, prodC_cons, h1]
      by_cases h0 : c x = 0
      · left; rw [h0, Int.zero_mul]
      · right
        have : c x = c y := tri1 _ (mem3 hv) _ (mem3 hw) hm hi h0
        rw [this]
theorem prod_one {R : Cuts} (hR : ∀ c ∈ R, Cut c) {x y : Rat} (hxy : x ≤ y) (h : cnt R x y = 1) (hz : zer R x = 0) : prodC R y = 0 ∨ prodC R y = - prodC R x := by
  induction R with
  | nil => cases h
  | cons c R ih =>
    unfold cnt zer at *
    rw [List.countP_cons] at h hz
    have hc := hR c (.head _)
    have hv := hc.val x
    have hw := hc.val y
    have hm := hc.mono x y hxy
    have h0 : c x ≠ 0 := fun e => by simp [e] at hz
    rw [prodC_cons, prodC_cons]
    cases e : inI x y c with
    | true =>
      rw [e] at h
      rcases prod_none (fun d hd => hR d (.tail _ hd)) hxy (show cnt R x y = 0 by unfold cnt; simp at h; simpa using h) with h1 | h1
      · exact absurd h1 (prod_ne (by unfold zer; omega))
      · by_cases hy : c y = 0
        · left; rw [hy, Int.zero_mul]
        · right
          obtain ⟨e1, e2⟩ := tri2 _ (mem3 hv) _ (mem3 hw) e hy
          rw [e1, e2, h1, Int.one_mul, Int.neg_mul, Int.one_mul, Int.neg_neg]
    | false =>
      rw [e] at h
      have : c x = c y := tri1 _ (mem3 hv) _ (mem3 hw) hm e h0
      rcases ih (fun d hd => hR d (.tail _ hd)) (by simpa using h) (by omega) with h1 | h1
      · left; rw [h1, Int.mul_zero]
      · right; rw [h1, this, Int.mul_neg]
theorem cnt_more {R : Cuts} (hR : ∀ c ∈ R, Cut c) {w x y : Rat} (h : w < x) (hxy : x ≤ y) : cnt R x y + zer R x ≤ cnt R w y := by
  induction R with
  | nil => exact Nat.le_refl _
  | cons c R ih =>
    unfold cnt zer at *
    rw [List.countP_cons, List.countP_cons, List.countP_cons]
    have hc := hR c (.head _)
    have hv := hc.val x
    have hv' := hc.val w
    have hm := hc.mono x y hxy
    have hm' := hc.mono w x (Rat.le_of_lt h)
    have hs := hc.strict w x h
    have := ih (fun d hd => hR d (.tail _ hd))
    have key := tri4 _ (mem3 hv') _ (mem3 hv) _ (mem3 (hc.val y)) hm' hm hs
    exact Nat.le_trans (Nat.le_of_eq (Nat.add_add_add_comm ..)) (Nat.add_le_add this key)
theorem cnt_add {R : Cuts} (hR : ∀ c ∈ R, Cut c) {x y z : Rat} (h1 : x ≤ y) (h2 : y ≤ z) : cnt R x z = cnt R x y + cnt R y z := by
  induction R with
  | nil => rfl
  | cons c R ih =>
    unfold cnt at *
    rw [List.countP_cons, List.countP_cons, List.countP_cons, ih (fun d hd => hR d (.tail _ hd))]
    have hc := hR c (.head _)
    have v1 := hc.val x
    have v2 := hc.val y
    have v3 := hc.val z
    have m1 := hc.mono x y h1
    have m2 := hc.mono y z h2
    have key := tri3 _ (mem3 v1) _ (mem3 v2) _ (mem3 v3) m1 m2
    exact (congrArg (_ + ·) key).trans (Nat.add_add_add_comm ..)

structure Known (g : List Int) (R : Cuts) : Prop where
  tr : Tr g
  ne : g ≠ []
  cuts : ∀ c ∈ R, Cut c
  sign : ∃ κ : Int, (κ = 1 ∨ κ = -1) ∧ ∀ x, sg (ev g x) = κ * prodC R x
  sep : ∃ σ : Rat, 0 < σ ∧ ∀ x y, x ≤ y → y - x ≤ σ → cnt R x y ≤ 1
  bez : ∀ M : Rat, 0 ≤ M → ∃ ε : Rat, 0 < ε ∧ ∀ x, Bd M x → Big ε (ev g x) ∨ Big ε (ev (zder g) x)
noncomputable def Vr (g : List Int) (x : Rat) : Int := (chg (nz ((sturm g).map fun p => sg (ev p x))) : Nat)
theorem dgo_getD : ∀ (l : List Int) (i j : Nat), (dgo i l).getD j 0 = l.getD j 0 * ((i + j : Nat) : Int)
  | [], i, j => by simp [dgo]
  | c :: l, i, 0 => by simp [dgo]
  | c :: l, i, j + 1 => by
    rw [dgo, List.getD_cons_succ, List.getD_cons_succ, dgo_getD l (i + 1) j, show i + 1 + j = i + (j + 1) by omega]
theorem zder_getD (p : List Int) (j : Nat) : (zder p).getD j 0 = p.getD (j + 1) 0 * ((j + 1 : Nat) : Int) := by
  unfold zder
  rw [List.drop_one, tail_getD, dgo_getD, Nat.zero_add]
theorem tr_zder {p : List Int} (hp : Tr p) : Tr (zder p) := by
  intro h
  have hl : (zder p).length = p.length - 1 := zder_len p
  have h0 : (zder p).length ≠ 0 := fun e => h (List.length_eq_zero_iff.mp e)
  have h1 := hp (fun e => by subst e; exact h0 rfl)
  unfold lead at *
  rw [zder_getD, hl, show p.length - 1 - 1 + 1 = p.length - 1 by omega]
  exact Int.mul_ne_zero h1 (by omega)
theorem ev_dgo : ∀ (l : List Int) (i : Nat) (x : Rat), ev (dgo i l) x = (((i : Nat) : Int) : Rat) * ev l x + x * evd l x
  | [], i, x => by simp [dgo, ev, evd]; grind
  | c :: l, i, x => by
    rw [dgo, ev, ev_dgo l (i + 1) x, ev, evd, Rat.intCast_mul, Int.natCast_add, Rat.intCast_add]
    have : (((1 : Nat) : Int) : Rat) = 1 := rfl
    rw [this]
    grind
theorem ev_zder (p : List Int) (x : Rat) : ev (zder p) x = evd p x := by
  cases p with
  | nil => rfl
  | cons c l =>
    show ev (dgo 1 l) x = _
    have : (((1 : Nat) : Int) : Rat) = 1 := rfl
    rw [ev_dgo, evd, this]; grind
theorem chg_two {u τ : Int} (l : List Int) (hu : u = 0 ∨ u = 1 ∨ u = -1) (ht : τ = 1 ∨ τ = -1) : chg (nz (u :: τ :: l)) = (if u = -τ then 1 else 0) + chg (τ :: nz l) := by
  rw [nz_cons, nz_cons, if_neg (show ¬ τ = 0 by omega)]
  by_cases h : u = 0
  · rw [if_pos h, if_neg (by omega)]; omega
  · rw [if_neg h, chg_cons]
    by_cases h2 : u = -τ
    · rw [if_pos (by omega), if_pos h2]
    · rw [if_neg (by omega), if_neg h2]
theorem sg_pos' {z : Rat} (h : 0 < z) : sg z = 1 := by unfold sg; rw [if_pos h]
theorem sg_neg' {z : Rat} (h : z < 0) : sg z = -1 := by unfold sg; rw [if_neg (by grind), if_pos h]
theorem sg_up {a b : Rat} (h : a < b) (h0 : 0 ≤ sg a) : sg b = 1 := by
  refine sg_pos' ?_
  by_cases ha : a < 0
  · rw [sg_neg' ha] at h0; exact absurd h0 (by decide)
  · clear h0; grind
theorem sg_down {a b : Rat} (h : b < a) (h0 : sg a ≤ 0) : sg b = -1 := by
  refine sg_neg' ?_
  by_cases ha : 0 < a
  · rw [sg_pos' ha] at h0; exact absurd h0 (by decide)
  · clear h0; grind
theorem sub_pos_of {x y : Rat} (h : x < y) : 0 < y - x := by grind
theorem w_lt {x σ : Rat} (h : 0 < σ) : x - σ / 2 < x := by grind
theorem w_le {x y σ : Rat} (h : 0 < σ) (h2 : x < y) : x - σ / 2 ≤ y := by grind
theorem w_d {x y σ : Rat} (h2 : y - x ≤ σ / 2) : y - (x - σ / 2) ≤ σ := by grind
theorem climb {K ε d G y0 y1 : Rat} (hd : 0 < d) (k0 : 0 < K) (kk : K * K⁻¹ = 1) (hde : d ≤ ε / 2 * K⁻¹) (hG : Big ε G) (ht : Bd (K * (d * d)) (y1 - y0 - d * G)) : (sg G = 1 → 0 ≤ sg y0 → sg y1 = 1) ∧ (sg G = -1 → sg y0 ≤ 0 → sg y1 = -1) := by
  have h2 := Rat.mul_le_mul_of_nonneg_left hde (Rat.le_of_lt k0)
  have h3 : K * (ε / 2 * K⁻¹) = ε / 2 := by grind
  rw [h3] at h2
  have h4 := Rat.mul_le_mul_of_nonneg_left h2 (Rat.le_of_lt hd)
  have e0 : 0 < ε := by
    have := Rat.mul_pos k0 hd
    grind
  have h5 := Rat.mul_pos e0 hd
  have ht1 := ht.1
  have ht2 := ht.2
  rcases hG with hG | hG
  · have h6 := Rat.mul_le_mul_of_nonneg_left hG (Rat.le_of_lt hd)
    have h7 : y0 < y1 := by grind
    have h8 := sg_pos' (show 0 < G by grind)
    exact ⟨fun _ h => sg_up h7 h, fun e => by rw [h8] at e; exact absurd e (by decide)⟩
  · have h6 := Rat.mul_le_mul_of_nonneg_left hG (Rat.le_of_lt hd)
    have h7 : y1 < y0 := by grind
    have h8 := sg_neg' (show G < 0 by grind)
    exact ⟨fun e => by rw [h8] at e; exact absurd e (by decide), fun _ h => sg_down h7 h⟩
theorem nat_if_sub (p q : Prop) [Decidable p] [Decidable q] (v : Nat) : (((if p then 1 else 0) + v : Nat) : Int) - (((if q then 1 else 0) + v : Nat) : Int) = (if p then 1 else 0) - (if q then 1 else 0) := by
  split <;> split <;> omega
theorem loc_one {τ u w : Int} (ht : τ = 1 ∨ τ = -1) (hu : u = 0 ∨ u = 1 ∨ u = -1) (hu0 : u ≠ 0) (hww : w = 0 ∨ w = -u) (h1 : τ = 1 → 0 ≤ u → w = 1) (h2 : τ = -1 → u ≤ 0 → w = -1) : (if u = -τ then (1 : Int) else 0) - (if w = -τ then 1 else 0) = ((1 : Nat) : Int) := by
  rcases ht with rfl | rfl <;> rcases hu with rfl | rfl | rfl <;> first | exact absurd rfl hu0 | (rcases hww with rfl | rfl <;> first | rfl | exact absurd (h1 rfl (by decide)) (by decide) | exact absurd (h2 rfl (by decide)) (by decide))
theorem loc_none {τ u w : Int} (ht : τ = 1 ∨ τ = -1) (hww : u = 0 ∨ u = w) (h1 : τ = 1 → 0 ≤ u → w = 1) (h2 : τ = -1 → u ≤ 0 → w = -1) : (if u = -τ then (1 : Int) else 0) - (if w = -τ then 1 else 0) = ((0 : Nat) : Int) := by
  rcases hww with rfl | rfl
  · rcases ht with rfl | rfl
    · rw [h1 rfl (by decide)]; rfl
    · rw [h2 rfl (by decide)]; rfl
  · exact Int.sub_self _
theorem sturm_local {g : List Int} {R : Cuts} (H : Known g R) (M : Rat) (hM : 0 ≤ M) : ∃ δ : Rat, 0 < δ ∧ ∀ x y, Bd M x → Bd M y → x < y → y - x ≤ δ → Vr g x - Vr g y = (cnt R x y : Nat) := by
  obtain ⟨κ, hκ, hs⟩ := H.sign
  obtain ⟨σ, s0, hsep⟩ := H.sep
  obtain ⟨ε, e0, hb⟩ := H.bez M hM
  have tg' := tr_zder H.tr
  obtain ⟨K2, k20, htay⟩ := ev_taylor M hM g
  have ki := Rat.inv_pos.mpr k20
  have kk : K2 * K2⁻¹ = 1 := Rat.mul_inv_cancel K2 (by grind)
  obtain ⟨δ1, d1, D1⟩ := chain_rel M hM g.length g (zder g) (by rw [zder_len]; omega) H.tr tg' ε e0
  obtain ⟨δ2, d2, D2⟩ : ∃ δ2 : Rat, 0 < δ2 ∧ (zder g ≠ [] → ∀ x y, Bd M x → Bd M y → x ≤ y → y - x ≤ δ2 → Big ε (ev (zder g) x) →
      RelV (sg (ev (zder g) x)) ((stTail (g.length - 1) (zder g) (nextRow g (zder g))).map fun p => sg (ev p x)) ((stTail (g.length - 1) (zder g) (nextRow g (zder g))).map fun p => sg (ev p y))) := by
    by_cases h : zder g = []
    · exact ⟨1, by grind, fun h' => absurd h h'⟩
    · obtain ⟨δ2, d2, D2⟩ := chain_rel M hM (g.length - 1) (zder g) (nextRow g (zder g)) (by have := nextRow_len (a := g) h; rw [zder_len] at this; omega) tg' (tr_nextRow H.tr) ε e0
      exact ⟨δ2, d2, fun _ => D2⟩
  obtain ⟨δ3, d3, D3⟩ := sg_stays M hM g ε e0
  obtain ⟨δ4, d4, D4⟩ := sg_stays M hM (zder g) ε e0
  have d5 : 0 < ε / 2 * K2⁻¹ := Rat.mul_pos (by grind) ki
  obtain ⟨a1, p1, p2, p3⟩ := least2 d1 d2
  obtain ⟨a2, p4, p5, p6⟩ := least2 d3 d4
  obtain ⟨a3, p7, p8, p9⟩ := least2 d5 (show 0 < σ / 2 by grind)
  obtain ⟨a4, p10, p11, p12⟩ := least2 p1 p4
  obtain ⟨δ, p13, p14, p15⟩ := least2 p10 p7
  refine ⟨δ, p13, fun x y hx hy hxy hd => ?_⟩
  have hle := Rat.le_of_lt hxy
  have c1 : cnt R x y + zer R x ≤ 1 := Nat.le_trans (cnt_more H.cuts (w := x - σ / 2) (w_lt s0) hle) (hsep _ _ (w_le s0 hxy) (w_d (Rat.le_trans hd (Rat.le_trans p15 p9))))
  have su := hs x
  have sw := hs y
  have hκ0 : κ ≠ 0 := by omega
  by_cases hbig : Big ε (ev g x)
  · obtain ⟨s1, s2⟩ := D3 x y hx hy hle (Rat.le_trans hd (Rat.le_trans p14 (Rat.le_trans p12 p5))) hbig
    have hV : Vr g x = Vr g y := by
      unfold Vr sturm
      rw [List.map_cons, List.map_cons, nz_cons, nz_cons, if_neg s2, ← s1, if_neg s2]
      rw [(D1 x y hx hy hle (Rat.le_trans hd (Rat.le_trans p14 (Rat.le_trans p11 p2))) hbig).chg (sg_one s2)]
    have hc : cnt R x y = 0 := by
      by_cases h1 : cnt R x y = 1
      · have hz : zer R x = 0 := by omega
        rcases prod_one H.cuts hle h1 hz with h2 | h2
        · rw [h2, Int.mul_zero] at sw; omega
        · rw [h2, Int.mul_neg, ← su] at sw; omega
      · omega
    rw [hV, hc]; simp
  · have hbig' := (hb x hx).resolve_left hbig
    obtain ⟨s1, s2⟩ := D4 x y hx hy hle (Rat.le_trans hd (Rat.le_trans p14 (Rat.le_trans p12 p6))) hbig'
    have hne : zder g ≠ [] := fun e => by rw [e] at s2; simp [ev, sg] at s2
    have hst : sturm g = g :: zder g :: stTail (g.length - 1) (zder g) (nextRow g (zder g)) := by
      unfold sturm
      have := List.length_pos_iff.mpr H.ne
      rw [show g.length = (g.length - 1) + 1 by omega, stTail, if_neg hne]; rfl
    have hrel := (D2 hne x y hx hy hle (Rat.le_trans hd (Rat.le_trans p14 (Rat.le_trans p11 p3))) hbig').chg (sg_one s2)
    have hτ := sg_one s2
    have V1 : Vr g x = (((if sg (ev g x) = -sg (ev (zder g) x) then 1 else 0) + chg (sg (ev (zder g) x) :: nz ((stTail (g.length - 1) (zder g) (nextRow g (zder g))).map fun p => sg (ev p x))) : Nat) : Int) := by
      unfold Vr; rw [hst, List.map_cons, List.map_cons, chg_two _ (sg_cases _) hτ]
    have V2 : Vr g y = (((if sg (ev g y) = -sg (ev (zder g) x) then 1 else 0) + chg (sg (ev (zder g) x) :: nz ((stTail (g.length - 1) (zder g) (nextRow g (zder g))).map fun p => sg (ev p y))) : Nat) : Int) := by
      unfold Vr; rw [hst, List.map_cons, List.map_cons, ← s1, chg_two _ (sg_cases _) hτ]
    rw [← hrel] at V2
    have hm2 : (sg (ev (zder g) x) = 1 → 0 ≤ sg (ev g x) → sg (ev g y) = 1) ∧ (sg (ev (zder g) x) = -1 → sg (ev g x) ≤ 0 → sg (ev g y) = -1) := by
      have ht := htay x y hx hy
      rw [← ev_zder] at ht
      exact climb (sub_pos_of hxy) k20 kk (Rat.le_trans hd (Rat.le_trans p15 p8)) hbig' ht
    have hdiff : Vr g x - Vr g y = (if sg (ev g x) = -sg (ev (zder g) x) then 1 else 0) - (if sg (ev g y) = -sg (ev (zder g) x) then 1 else 0) := by
      rw [V1, V2]; exact nat_if_sub _ _ _
    rw [hdiff]
    by_cases h1 : cnt R x y = 1
    · have hz : zer R x = 0 := by omega
      have hu0 : sg (ev g x) ≠ 0 := by rw [su]; exact Int.mul_ne_zero hκ0 (prod_ne hz)
      rw [h1]
      refine loc_one hτ (sg_cases _) hu0 ?_ hm2.1 hm2.2
      rcases prod_one H.cuts hle h1 hz with h2 | h2
      · left; rw [sw, h2, Int.mul_zero]
      · right; rw [sw, h2, Int.mul_neg, su]
    · have h0 : cnt R x y = 0 := by omega
      rw [h0]
      refine loc_none hτ ?_ hm2.1 hm2.2
      rcases prod_none H.cuts hle h0 with h2 | h2
      · left; rw [su, h2, Int.mul_zero]
      · right; rw [su, sw, h2]
end Mine
end

section
open PySem PySem.W PyProof.Rows PySem.Calls
namespace Mine

theorem cnt_same {R : Cuts} {x : Rat} : cnt R x x = 0 := by
  unfold cnt
  rw [List.countP_eq_zero]
  intro c _ h
  unfold inI at h
  simp only [Bool.and_eq_true, beq_iff_eq, decide_eq_true_eq] at h
  omega
theorem archi {d : Rat} (hd : 0 < d) (r : Rat) : ∃ n : Nat, r ≤ (n : Rat) * d := by
  have di := Rat.inv_pos.mpr hd
  have dd : d * d⁻¹ = 1 := Rat.mul_inv_cancel d (by grind)
  refine ⟨(r * d⁻¹).ceil.toNat, ?_⟩
  have h1 := Rat.le_ceil (x := r * d⁻¹)
  have h2 : (r * d⁻¹).ceil ≤ (((r * d⁻¹).ceil.toNat : Nat) : Int) := Int.self_le_toNat _
  have h3 : (((r * d⁻¹).ceil : Int) : Rat) ≤ ((((r * d⁻¹).ceil.toNat : Nat) : Int) : Rat) := Rat.intCast_le_intCast.mpr h2
  have h4 : r * d⁻¹ ≤ (((r * d⁻¹).ceil.toNat : Nat) : Rat) := Rat.le_trans h1 h3
  have h5 := Rat.mul_le_mul_of_nonneg_left h4 (Rat.le_of_lt hd)
  clear h1 h2 h3 h4
  generalize (((r * d⁻¹).ceil.toNat : Nat) : Rat) = N at h5 ⊢
  have e : d * (r * d⁻¹) = r := by grind
  rw [e, Rat.mul_comm] at h5
  exact h5
theorem sturm_steps {g : List Int} {R : Cuts} (H : Known g R) {M δ : Rat} (hδ : 0 < δ) (D : ∀ x y, Bd M x → Bd M y → x < y → y - x ≤ δ → Vr g x - Vr g y = (cnt R x y : Nat)) :
    ∀ (n : Nat) (x y : Rat), Bd M x → Bd M y → x ≤ y → y - x ≤ (n : Rat) * δ → Vr g x - Vr g y = (cnt R x y : Nat)
  | 0, x, y, hx, hy, h, hn => by
    have : y = x := by
      have : (((0 : Nat) : Rat)) = 0 := rfl
      rw [this] at hn; grind
    rw [this, cnt_same]; simp
  | n + 1, x, y, hx, hy, h, hn => by
    by_cases h1 : y = x
    · rw [h1, cnt_same]; simp
    by_cases h2 : y - x ≤ δ
    · exact D x y hx hy (by grind) h2
    · have hz : Bd M (x + δ) := by unfold Bd at *; grind
      have e : (((n + 1 : Nat)) : Rat) = (n : Rat) + 1 := Rat.natCast_add n 1
      rw [e] at hn
      have h3 := sturm_steps H hδ D n (x + δ) y hz hy (by grind) (by grind)
      have h4 := D x (x + δ) hx hz (by grind) (by grind)
      have h5 := cnt_add H.cuts (x := x) (y := x + δ) (z := y) (by grind) (by grind)
      rw [h5]; omega
theorem sturm_count {g : List Int} {R : Cuts} (H : Known g R) {x y : Rat} (h : x ≤ y) : Vr g x - Vr g y = (cnt R x y : Nat) := by
  obtain ⟨K, k0, k⟩ := Bd.self x
  obtain ⟨L, l0, l⟩ := Bd.self y
  obtain ⟨δ, d0, D⟩ := sturm_local H (K + L) (by grind)
  obtain ⟨n, hn⟩ := archi d0 (y - x)
  exact sturm_steps H d0 D n x y (k.mono (by grind)) (l.mono (by grind)) h hn

noncomputable def Sided (s : Int) (v : Rat) : Prop := (s = 1 ∧ 1 ≤ v) ∨ (s = -1 ∧ v ≤ -1)
theorem sided_sg {s : Int} {v : Rat} (h : Sided s v) : sg v = s := by
  unfold sg
  rcases h with ⟨h1, h2⟩ | ⟨h1, h2⟩
  · rw [if_pos (by grind), h1]
  · rw [if_neg (by grind), if_pos (by grind), h1]
theorem sgn_eq (n : Int) : sgn n = if 0 < n then 1 else if n < 0 then -1 else 0 := by
  unfold sgn b2i
  by_cases h1 : 0 < n
  · have : ¬ n < 0 := by omega
    simp [h1, this]
  · by_cases h2 : n < 0 <;> simp [h1, h2]
theorem sg_int (n : Int) : sg (n : Rat) = sgn n := by
  rw [sgn_eq]; unfold sg
  by_cases h1 : 0 < n
  · rw [if_pos h1, if_pos (Rat.intCast_pos.mpr h1)]
  · have h1' : ¬ (0 : Rat) < (n : Rat) := fun e => h1 (Rat.intCast_pos.mp e)
    rw [if_neg h1, if_neg h1']
    by_cases h2 : n < 0
    · rw [if_pos h2, if_pos (Rat.intCast_neg_iff.mpr h2)]
    · have : ¬ (n : Rat) < 0 := fun e => h2 (Rat.intCast_neg_iff.mp e)
      rw [if_neg h2, if_neg this]
theorem fs1 {c C v x : Rat} (hC : Bd C c) (hx : C + 1 ≤ x) (h0 : 0 ≤ x) (hv : 1 ≤ v) : 1 ≤ c + x * v := by
  have := Rat.mul_le_mul_of_nonneg_left hv h0
  have := hC.1
  grind
theorem fs2 {c C v x : Rat} (hC : Bd C c) (hx : C + 1 ≤ x) (h0 : 0 ≤ x) (hv : v ≤ -1) : c + x * v ≤ -1 := by
  have := fs1 hC.neg hx h0 (show 1 ≤ -v by grind)
  grind
theorem fs3 {c C v x : Rat} (hC : Bd C c) (hx : x ≤ -(C + 1)) (h0 : x ≤ 0) (hv : 1 ≤ v) : c + x * v ≤ -1 := by
  have := fs2 hC (x := -x) (by grind) (by grind) (show -v ≤ -1 by grind)
  grind
theorem fs4 {c C v x : Rat} (hC : Bd C c) (hx : x ≤ -(C + 1)) (h0 : x ≤ 0) (hv : v ≤ -1) : 1 ≤ c + x * v := by
  have := fs1 hC (x := -x) (by grind) (by grind) (show 1 ≤ -v by grind)
  grind
theorem fb1 {m C x : Rat} (m0 : 0 < m) (c0 : 0 < C) (h : x ≤ -(m + C + 1)) : x ≤ -m ∧ x ≤ -(C + 1) ∧ x ≤ 0 := by grind
theorem fb2 {m C x : Rat} (m0 : 0 < m) (c0 : 0 < C) (h : m + C + 1 ≤ x) : m ≤ x ∧ C + 1 ≤ x ∧ 0 ≤ x := by grind
theorem far (p : List Int) (hp : p ≠ []) : Tr p → ∃ m : Rat, 0 < m ∧ ∀ x, (x ≤ -m → Sided (endSign p true) (ev p x)) ∧ (m ≤ x → Sided (endSign p false) (ev p x)) := by
  induction p with
  | nil => exact absurd rfl hp
  | cons c l ih =>
    intro ht
    by_cases hl : l = []
    · subst hl
      have hc : c ≠ 0 := ht hp
      refine ⟨1, by grind, fun x => ?_⟩
      have e : ev [c] x = (c : Rat) := by simp [ev]; grind
      have e1 : endSign [c] true = sgn c := by simp [endSign, lead]
      have e2 : endSign [c] false = sgn c := by simp [endSign, lead]
      rw [e, e1, e2, sgn_eq]
      have key : Sided (if 0 < c then 1 else if c < 0 then -1 else 0) (c : Rat) := by
        by_cases h1 : 0 < c
        · rw [if_pos h1]; exact .inl ⟨rfl, by have : ((1 : Int) : Rat) ≤ (c : Rat) := Rat.intCast_le_intCast.mpr h1; exact this⟩
        · rw [if_neg h1, if_pos (by omega)]; exact .inr ⟨rfl, by have : (c : Rat) ≤ ((-1 : Int) : Rat) := Rat.intCast_le_intCast.mpr (by omega); exact this⟩
      exact ⟨fun _ => key, fun _ => key⟩
    · obtain ⟨n, hn⟩ : ∃ n, l.length = n + 1 := ⟨l.length - 1, by have := List.length_pos_iff.mpr hl; omega⟩
      have hlead : lead (c :: l) = lead l := by
        unfold lead
        rw [List.length_cons, hn]; rfl
      obtain ⟨m, m0, h⟩ := ih hl (fun _ => by rw [← hlead]; exact ht hp)
      obtain ⟨C, c0, hC⟩ := Bd.self (c : Rat)
      have e1 : endSign (c :: l) false = endSign l false := by simp [endSign, hl, hlead]
      have hs : sgn (lead l) = 1 ∨ sgn (lead l) = -1 := by
        have : lead l ≠ 0 := by rw [← hlead]; exact ht hp
        rw [sgn_eq]; split
        · simp
        · rw [if_pos (by omega)]; simp
      have e2 : endSign (c :: l) true = - endSign l true := by
        have h1 : ((((c :: l).length : Nat) : Int) - 1).fmod 2 = (((n + 1 : Nat) : Int)).fmod 2 := by rw [List.length_cons, hn]; congr 1; omega
        have h2 : (((l.length : Nat) : Int) - 1).fmod 2 = ((n : Nat) : Int).fmod 2 := by rw [hn]; congr 1; omega
        unfold endSign
        rw [if_neg hp, if_neg hl, h1, h2, hlead, Int.fmod_eq_emod_of_nonneg _ (by decide), Int.fmod_eq_emod_of_nonneg _ (by decide)]
        by_cases h3 : n % 2 = 1
        · have h4 : ¬ (((n + 1 : Nat) : Int)) % 2 = 1 := by omega
          have h5 : ((n : Nat) : Int) % 2 = 1 := by omega
          simp only [h4, h5]; simp
        · have h4 : (((n + 1 : Nat) : Int)) % 2 = 1 := by omega
          have h5 : ¬ ((n : Nat) : Int) % 2 = 1 := by omega
          simp only [h4, h5]; simp
      refine ⟨m + C + 1, by grind, fun x => ⟨fun hx => ?_, fun hx => ?_⟩⟩
      · have hb := fb1 m0 c0 hx
        rw [e2, ev]
        rcases (h x).1 hb.1 with a | a
        · exact .inr ⟨by rw [a.1], fs3 hC hb.2.1 hb.2.2 a.2⟩
        · exact .inl ⟨by rw [a.1]; rfl, fs4 hC hb.2.1 hb.2.2 a.2⟩
      · have hb := fb2 m0 c0 hx
        rw [e1, ev]
        rcases (h x).2 hb.1 with a | a
        · exact .inl ⟨a.1, fs1 hC hb.2.1 hb.2.2 a.2⟩
        · exact .inr ⟨a.1, fs2 hC hb.2.1 hb.2.2 a.2⟩
theorem far_row : ∀ (row : List (List Int)), (∀ p ∈ row, p ≠ [] ∧ Tr p) → ∃ m : Rat, 0 < m ∧ ∀ x, (x ≤ -m → row.map (fun p => sg (ev p x)) = row.map (sgnAt .neg)) ∧ (m ≤ x → row.map (fun p => sg (ev p x)) = row.map (sgnAt .pos))
  | [], _ => ⟨1, by grind, fun x => ⟨fun _ => rfl, fun _ => rfl⟩⟩
  | p :: row, h => by
    obtain ⟨m1, a1, b1⟩ := far p (h p (.head _)).1 (h p (.head _)).2
    obtain ⟨m2, a2, b2⟩ := far_row row (fun q hq => h q (.tail _ hq))
    refine ⟨m1 + m2, by grind, fun x => ⟨fun hx => ?_, fun hx => ?_⟩⟩
    · rw [List.map_cons, List.map_cons, (b2 x).1 (by grind), sided_sg ((b1 x).1 (by grind))]; rfl
    · rw [List.map_cons, List.map_cons, (b2 x).2 (by grind), sided_sg ((b1 x).2 (by grind))]; rfl
theorem stTail_tr : ∀ (n : Nat) (a b : List Int), Tr a → Tr b → ∀ p ∈ stTail n a b, p ≠ [] ∧ Tr p
  | 0, a, b, ha, hb, p, h => by simp [stTail] at h
  | n + 1, a, b, ha, hb, p, h => by
    unfold stTail at h
    split at h
    · cases h
    · rename_i hne
      rcases List.mem_cons.mp h with rfl | h
      · exact ⟨hne, hb⟩
      · exact stTail_tr n _ _ hb (tr_nextRow ha) p h
theorem sturm_tr {g : List Int} (hg : Tr g) (h0 : g ≠ []) : ∀ p ∈ sturm g, p ≠ [] ∧ Tr p := fun p hp => by
  rcases List.mem_cons.mp hp with rfl | hp
  · exact ⟨h0, hg⟩
  · exact stTail_tr _ _ _ hg (tr_zder hg) p hp
noncomputable def qv (q : Int × Int) : Rat := (q.1 : Rat) * (q.2 : Rat)⁻¹
theorem valGo_snoc (t b : Int) : ∀ (l : List Int) (c : Int) (fs : Int × Int), valGo t b (l ++ [c]) fs = ((valGo t b l fs).1 * t + c * (valGo t b l fs).2, (valGo t b l fs).2 * b)
  | [], c, (f, s) => rfl
  | d :: l, c, (f, s) => by rw [List.cons_append, valGo, valGo, valGo_snoc t b l c]
theorem valGo_ev {t b : Int} (hb : 0 < b) : ∀ p : List Int, 0 < (valGo t b p.reverse (0, 1)).2 ∧ ((valGo t b p.reverse (0, 1)).1 : Rat) * (b : Rat) = ev p (qv (t, b)) * ((valGo t b p.reverse (0, 1)).2 : Rat)
  | [] => ⟨show (0 : Int) < 1 by decide, by simp [valGo, ev]⟩
  | c :: p => by
    obtain ⟨h1, h2⟩ := valGo_ev (t := t) hb p
    rw [List.reverse_cons, valGo_snoc]
    refine ⟨Int.mul_pos h1 hb, ?_⟩
    have bb : (b : Rat) * (b : Rat)⁻¹ = 1 := Rat.mul_inv_cancel _ (by have := Rat.intCast_pos.mpr hb; grind)
    show (((valGo t b p.reverse (0, 1)).1 * t + c * (valGo t b p.reverse (0, 1)).2 : Int) : Rat) * b = ev (c :: p) (qv (t, b)) * (((valGo t b p.reverse (0, 1)).2 * b : Int) : Rat)
    rw [ev, Rat.intCast_add, Rat.intCast_mul, Rat.intCast_mul, Rat.intCast_mul]
    have e : qv (t, b) * (b : Rat) = t := by unfold qv; grind
    generalize ((valGo t b p.reverse (0, 1)).1 : Rat) = f at h2 ⊢
    generalize ((valGo t b p.reverse (0, 1)).2 : Rat) = s at h2 ⊢
    generalize qv (t, b) = x at h2 e ⊢
    grind
theorem sg_mul_pos {x y : Rat} (h : 0 < y) : sg (x * y) = sg x := by
  unfold sg
  by_cases h1 : 0 < x
  · rw [if_pos h1, if_pos (Rat.mul_pos h1 h)]
  · by_cases h2 : x < 0
    · have := Rat.mul_pos (show 0 < -x by grind) h
      rw [if_neg h1, if_pos h2, if_neg (by grind), if_pos (by grind)]
    · have : x = 0 := by grind
      rw [if_neg h1, if_neg h2, this, if_neg (by grind), if_neg (by grind)]
theorem valSign_ev {q : Int × Int} (hq : 0 < q.2) (p : List Int) : valSign p q = sg (ev p (qv q)) := by
  obtain ⟨h1, h2⟩ := valGo_ev (t := q.1) hq p
  unfold valSign valH
  have h3 := Rat.intCast_pos.mpr hq
  have h4 := Rat.intCast_pos.mpr h1
  rw [← sg_int, ← sg_mul_pos h3, h2]
  exact sg_mul_pos h4
theorem changes_fin {g : List Int} {q : Int × Int} (hq : 0 < q.2) : changes (sgnAt (.fin q)) (sturm g) = Vr g (qv q) := by
  unfold changes Vr nz
  have : (sturm g).map (sgnAt (.fin q)) = (sturm g).map fun p => sg (ev p (qv q)) := List.map_congr_left fun p _ => valSign_ev hq p
  rw [this]
theorem changes_far {g : List Int} (hg : Tr g) (h0 : g ≠ []) : ∃ m : Rat, 0 < m ∧ ∀ x, (x ≤ -m → changes (sgnAt .neg) (sturm g) = Vr g x) ∧ (m ≤ x → changes (sgnAt .pos) (sturm g) = Vr g x) := by
  obtain ⟨m, m0, h⟩ := far_row (sturm g) (sturm_tr hg h0)
  refine ⟨m, m0, fun x => ⟨fun hx => ?_, fun hx => ?_⟩⟩
  · unfold changes Vr nz; rw [(h x).1 hx]
  · unfold changes Vr nz; rw [(h x).2 hx]
end Mine
end

section
open PySem PySem.W PyProof.Rows PySem.Calls
namespace Mine

noncomputable def evI : List Int → Int → Int
  | [], _ => 0
  | c :: l, n => c + n * evI l n
theorem ev_int (p : List Int) (n : Int) : ev p (n : Rat) = ((evI p n : Int) : Rat) := by
  induction p with
  | nil => rfl
  | cons c l ih => rw [ev, evI, ih, Rat.intCast_add, Rat.intCast_mul]
theorem evI_zero : ∀ p : List Int, (∀ n : Int, 1 ≤ n → evI p n = 0) → ∀ i, p.getD i 0 = 0
  | [], _, i => by simp
  | c :: l, h, i => by
    have hc : c = 0 := by
      have h1 := h ((c.natAbs : Int) + 1) (by omega)
      rw [evI] at h1
      have h2 : ((c.natAbs : Int) + 1) ∣ c := ⟨-evI l ((c.natAbs : Int) + 1), by rw [Int.mul_neg]; omega⟩
      by_cases h0 : c = 0
      · exact h0
      · have := Int.le_of_dvd (show (0 : Int) < c.natAbs by omega) (Int.dvd_natAbs.mpr h2)
        omega
    have hl : ∀ n : Int, 1 ≤ n → evI l n = 0 := fun n hn => by
      have := h n hn
      rw [evI, hc, Int.zero_add] at this
      rcases Int.mul_eq_zero.mp this with h1 | h1
      · omega
      · exact h1
    cases i with
    | zero => simpa using hc
    | succ i => rw [List.getD_cons_succ]; exact evI_zero l hl i
theorem ev_inj {a b : List Int} (h : ∀ x, ev a x = ev b x) (i : Nat) : a.getD i 0 = b.getD i 0 := by
  have key := evI_zero (zsub a b) (fun n _ => by
    have h1 := ev_zsub a b (n : Rat)
    rw [h, ev_int] at h1
    have h2 : ((evI (zsub a b) n : Int) : Rat) = ((0 : Int) : Rat) := by rw [h1]; exact Rat.sub_self
    exact Rat.intCast_inj.mp h2) i
  rw [zsub_getD] at key; omega
theorem evd_congr {a b : List Int} (h : ∀ x, ev a x = ev b x) (x : Rat) : evd a x = evd b x := by
  rw [← ev_zder, ← ev_zder]
  exact ev_congr (fun i => by rw [zder_getD, zder_getD, ev_inj h]) x
noncomputable def padd : List Int → List Int → List Int
  | [], b => b
  | a, [] => a
  | c :: a, d :: b => (c + d) :: padd a b
theorem ev_padd : ∀ (a b : List Int) (x : Rat), ev (padd a b) x = ev a x + ev b x ∧ evd (padd a b) x = evd a x + evd b x
  | [], b, x => by simp [padd, ev, evd]; grind
  | c :: a, [], x => by simp [padd, ev, evd]; grind
  | c :: a, d :: b, x => by
    obtain ⟨h1, h2⟩ := ev_padd a b x
    simp only [padd, ev, evd, h1, h2, Rat.intCast_add]
    constructor <;> grind
theorem ev_map (k : Int) : ∀ (a : List Int) (x : Rat), ev (a.map (k * ·)) x = (k : Rat) * ev a x ∧ evd (a.map (k * ·)) x = (k : Rat) * evd a x
  | [], x => by simp [ev, evd]
  | c :: a, x => by
    obtain ⟨h1, h2⟩ := ev_map k a x
    simp only [List.map_cons, ev, evd, h1, h2, Rat.intCast_mul]
    constructor <;> grind
noncomputable def pmul : List Int → List Int → List Int
  | [], _ => []
  | c :: a, b => padd (b.map (c * ·)) (0 :: pmul a b)
theorem ev_pmul : ∀ (a b : List Int) (x : Rat), ev (pmul a b) x = ev a x * ev b x ∧ evd (pmul a b) x = evd a x * ev b x + ev a x * evd b x
  | [], b, x => by simp [pmul, ev, evd]; grind
  | c :: a, b, x => by
    obtain ⟨h1, h2⟩ := ev_pmul a b x
    obtain ⟨h3, h4⟩ := ev_map c b x
    obtain ⟨h5, h6⟩ := ev_padd (b.map (c * ·)) (0 :: pmul a b) x
    rw [pmul, h5, h6, h3, h4]
    simp only [ev, evd, h1, h2]
    have : (((0 : Int)) : Rat) = 0 := rfl
    rw [this]
    constructor <;> grind
theorem ev_set : ∀ (f : List Int) (k : Nat) (v : Int) (x : Rat), k < f.length → ev (f.set k (f.getD k 0 + v)) x = ev f x + (v : Rat) * x ^ k
  | [], k, v, x, h => by simp at h
  | c :: l, 0, v, x, h => by simp [ev, Rat.intCast_add]; grind
  | c :: l, k + 1, v, x, h => by
    rw [List.set_cons_succ, List.getD_cons_succ, ev, ev_set l k v x (by simpa using h), ev, Rat.pow_succ]; grind
theorem ev_mulIn (i : Nat) (c : Int) (x : Rat) : ∀ (ds : List Int) (j : Nat) (f : List Int), i + j + ds.length ≤ f.length → ev (mulIn i c j ds f) x = ev f x + (c : Rat) * x ^ (i + j) * ev ds x
  | [], j, f, h => by simp [mulIn, ev]; grind
  | d :: ds, j, f, h => by
    rw [List.length_cons] at h
    rw [mulIn, ev_mulIn i c x ds (j + 1) _ (by simp; omega), ev_set _ _ _ _ (by omega), ev, show i + (j + 1) = (i + j) + 1 by omega, Rat.pow_succ, Rat.intCast_mul]
    grind
theorem ev_mulOut (b : List Int) (x : Rat) : ∀ (cs : List Int) (i : Nat) (f : List Int), (cs ≠ [] → i + cs.length + b.length ≤ f.length + 1) → ev (mulOut b i cs f) x = ev f x + x ^ i * ev cs x * ev b x
  | [], i, f, h => by simp [mulOut, ev]; grind
  | c :: cs, i, f, h => by
    have h := h (by simp)
    rw [List.length_cons] at h
    rw [mulOut, ev_mulOut b x cs (i + 1) _ (fun _ => by rw [mulIn_len]; omega), ev_mulIn i c x b 0 f (by omega), ev, Rat.pow_succ, Nat.add_zero]
    grind
theorem ev_replicate (n : Nat) (x : Rat) : ev (List.replicate n 0) x = 0 := by
  induction n with
  | zero => rfl
  | succ n ih => rw [List.replicate_succ, ev, ih]; simp; grind
theorem ev_mulS (a b : List Int) (x : Rat) : ev (mulS a b) x = ev a x * ev b x := by
  unfold mulS
  split
  · rename_i h
    rcases h with h | h <;> subst h <;> simp [ev]
  · rw [ev_mulOut b x a 0 _ (fun _ => by
      rw [List.length_replicate]; omega), ev_replicate]
    grind
theorem bez_of {u v f g : List Int} {c : Int} (h : ∀ x, ev u x * ev f x + ev v x * ev g x = (c : Rat)) (hc : c ≠ 0) (M : Rat) (hM : 0 ≤ M) : ∃ ε : Rat, 0 < ε ∧ ∀ x, Bd M x → Big ε (ev f x) ∨ Big ε (ev g x) := by
  obtain ⟨K, k0, k⟩ := ev_bd M hM u
  obtain ⟨L, l0, l⟩ := ev_bd M hM v
  have hi := Rat.inv_pos.mpr (show 0 < K + L by grind)
  have hk : (K + L) * (K + L)⁻¹ = 1 := Rat.mul_inv_cancel _ (by grind)
  refine ⟨(1 / 2) * (K + L)⁻¹, Rat.mul_pos (by grind) hi, fun x hx => ?_⟩
  generalize (K + L)⁻¹ = j at hi hk
  by_cases h1 : Big ((1 / 2) * j) (ev f x)
  · exact .inl h1
  · by_cases h2 : Big ((1 / 2) * j) (ev g x)
    · exact .inr h2
    · have b1 : Bd ((1 / 2) * j) (ev f x) := by unfold Big at h1; unfold Bd; grind
      have b2 : Bd ((1 / 2) * j) (ev g x) := by unfold Big at h2; unfold Bd; grind
      have b3 := ((k x hx).mul b1).add ((l x hx).mul b2)
      rw [h x] at b3
      have e : K * (1 / 2 * j) + L * (1 / 2 * j) = 1 / 2 := by grind
      rw [e] at b3
      have h3 : (1 : Rat) ≤ (c : Rat) ∨ (c : Rat) ≤ -1 := by
        by_cases hp : 0 < c
        · exact .inl (Rat.intCast_le_intCast (a := 1) |>.mpr hp)
        · exact .inr (Rat.intCast_le_intCast (b := -1) |>.mpr (by omega))
      unfold Bd at b3; grind
theorem big_mul {a b x y : Rat} (ha : 0 < a) (hb : 0 < b) (hx : Big a x) (hy : Big b y) : Big (a * b) (x * y) := by
  unfold Big at *
  have key : ∀ u v : Rat, a ≤ u → b ≤ v → a * b ≤ u * v := fun u v hu hv => by
    have h1 := Rat.mul_le_mul_of_nonneg_left hv (show 0 ≤ a by grind)
    have h2 := Rat.mul_le_mul_of_nonneg_right hu (show 0 ≤ v by grind)
    grind
  rcases hx with hx | hx <;> rcases hy with hy | hy
  · exact .inl (key _ _ hx hy)
  · right; have := key x (-y) hx (by grind); grind
  · right; have := key (-x) y (by grind) hy; grind
  · left; have := key (-x) (-y) (by grind) (by grind); grind
theorem Big.mono {a b x : Rat} (h : Big a x) (hb : b ≤ a) : Big b x := by unfold Big at *; grind
noncomputable def Apart (f g : List Int) : Prop := ∀ M : Rat, 0 ≤ M → ∃ ε : Rat, 0 < ε ∧ ∀ x, Bd M x → Big ε (ev f x) ∨ Big ε (ev g x)
theorem Apart.symm {f g : List Int} (h : Apart f g) : Apart g f := fun M hM => let ⟨e, e0, k⟩ := h M hM; ⟨e, e0, fun x hx => (k x hx).symm⟩
noncomputable def prodL (S : List (List Int)) : List Int := S.foldr pmul [1]
theorem apart_one (f : List Int) : Apart f [1] := fun M _ => ⟨1, by grind, fun x _ => .inr (.inl (by simp [ev]; grind))⟩
theorem apart_mul {f g h : List Int} (h1 : Apart f g) (h2 : Apart f h) : Apart f (pmul g h) := fun M hM => by
  obtain ⟨a, a0, ha⟩ := h1 M hM
  obtain ⟨b, b0, hb⟩ := h2 M hM
  obtain ⟨c, c0, c1, c2⟩ := least2 a0 b0
  obtain ⟨d, d0, d1, d2⟩ := least2 c0 (Rat.mul_pos a0 b0)
  refine ⟨d, d0, fun x hx => ?_⟩
  rw [(ev_pmul g h x).1]
  rcases ha x hx with p | p
  · exact .inl (p.mono (by grind))
  · rcases hb x hx with q | q
    · exact .inl (q.mono (by grind))
    · exact .inr ((big_mul a0 b0 p q).mono (by grind))
theorem apart_prod {f : List Int} : ∀ S : List (List Int), (∀ g ∈ S, Apart f g) → Apart f (prodL S)
  | [], _ => apart_one f
  | g :: S, h => apart_mul (h g (.head _)) (apart_prod S fun k hk => h k (.tail _ hk))
noncomputable def Sep (f : List Int) : Prop := ∀ M : Rat, 0 ≤ M → ∃ ε : Rat, 0 < ε ∧ ∀ x, Bd M x → Big ε (ev f x) ∨ Big ε (evd f x)
theorem sep_mul {f g : List Int} (hf : Sep f) (hg : Sep g) (hfg : Apart f g) : Sep (pmul f g) := fun M hM => by
  obtain ⟨a, a0, ha⟩ := hf M hM
  obtain ⟨b, b0, hb⟩ := hg M hM
  obtain ⟨c, c0, hc⟩ := hfg M hM
  obtain ⟨K1, k1, hk1⟩ := evd_bd M hM f
  obtain ⟨K2, k2, hk2⟩ := evd_bd M hM g
  have hi := Rat.inv_pos.mpr (show 0 < K1 + K2 by grind)
  have hk : (K1 + K2) * (K1 + K2)⁻¹ = 1 := Rat.mul_inv_cancel _ (by grind)
  obtain ⟨e, e0, e1, e2⟩ := least2 a0 b0
  obtain ⟨d, d0, d1, d2⟩ := least2 e0 c0
  have dd := Rat.mul_pos d0 d0
  obtain ⟨η, n0, n1, n2⟩ := least2 d0 (Rat.mul_pos dd (Rat.mul_pos (show (0 : Rat) < 1 / 2 by grind) hi))
  have nn := Rat.mul_pos n0 n0
  obtain ⟨ε, p0, p1, p2⟩ := least2 nn (show 0 < d * d * (1 / 2) by grind)
  refine ⟨ε, p0, fun x hx => ?_⟩
  obtain ⟨q1, q2⟩ := ev_pmul f g x
  rw [q1, q2]
  have hη : (K1 + K2) * η ≤ d * d * (1 / 2) := by
    have h1 := Rat.mul_le_mul_of_nonneg_left n2 (show 0 ≤ K1 + K2 by grind)
    have h2 : (K1 + K2) * (d * d * (1 / 2 * (K1 + K2)⁻¹)) = d * d * (1 / 2) := by grind
    grind
  have hb1 := hk1 x hx
  have hb2 := hk2 x hx
  by_cases s1 : Big η (ev f x)
  · by_cases s2 : Big η (ev g x)
    · exact .inl ((big_mul n0 n0 s1 s2).mono (by grind))
    · right
      have t1 : Bd η (ev g x) := by unfold Big at s2; unfold Bd; grind
      have t2 : Big d (evd g x) := ((hb x hx).resolve_left fun h => s2 (h.mono (by grind))).mono (by grind)
      have t3 : Big d (ev f x) := ((hc x hx).resolve_right fun h => s2 (h.mono (by grind))).mono (by grind)
      have t4 := big_mul d0 d0 t3 t2
      have t5 := hb1.mul t1
      have t6 : K1 * η ≤ d * d * (1 / 2) := by
        have := Rat.mul_nonneg (Rat.le_of_lt k2) (Rat.le_of_lt n0)
        grind
      unfold Big Bd at *
      rcases t4 with t4 | t4
      · left; grind
      · right; grind
  · right
    have t1 : Bd η (ev f x) := by unfold Big at s1; unfold Bd; grind
    have t2 : Big d (evd f x) := ((ha x hx).resolve_left fun h => s1 (h.mono (by grind))).mono (by grind)
    have t3 : Big d (ev g x) := ((hc x hx).resolve_left fun h => s1 (h.mono (by grind))).mono (by grind)
    have t4 := big_mul d0 d0 t2 t3
    have t5 := t1.mul hb2
    have t6 : η * K2 ≤ d * d * (1 / 2) := by
      have := Rat.mul_nonneg (Rat.le_of_lt k1) (Rat.le_of_lt n0)
      grind
    unfold Big Bd at *
    rcases t4 with t4 | t4
    · left; grind
    · right; grind
theorem sep_one : Sep [1] := fun M _ => ⟨1, by grind, fun x _ => .inl (.inl (by simp [ev]; grind))⟩
theorem sep_prod : ∀ S : List (List Int), (∀ f ∈ S, Sep f) → S.Pairwise Apart → Sep (prodL S)
  | [], _, _ => sep_one
  | f :: S, h, hp => by
    obtain ⟨p1, p2⟩ := List.pairwise_cons.mp hp
    exact sep_mul (h f (.head _)) (sep_prod S (fun k hk => h k (.tail _ hk)) p2) (apart_prod S p1)
theorem sep_of {g : List Int} {κ : Int} {P : List Int} (hκ : κ ≠ 0) (hP : Sep P) (h : ∀ x, ev g x = (κ : Rat) * ev P x) (M : Rat) (hM : 0 ≤ M) : ∃ ε : Rat, 0 < ε ∧ ∀ x, Bd M x → Big ε (ev g x) ∨ Big ε (ev (zder g) x) := by
  obtain ⟨e, e0, k⟩ := hP M hM
  have hd : ∀ x, evd g x = (κ : Rat) * evd P x := fun x => by
    rw [← (ev_map κ P x).2]
    exact evd_congr (fun y => by rw [h, (ev_map κ P y).1]) x
  have h3 : Big 1 (κ : Rat) := by
    by_cases hp : 0 < κ
    · exact .inl (Rat.intCast_le_intCast (a := 1) |>.mpr hp)
    · exact .inr (Rat.intCast_le_intCast (b := -1) |>.mpr (by omega))
  refine ⟨e, e0, fun x hx => ?_⟩
  rw [ev_zder, hd, h]
  rcases k x hx with h1 | h1
  · left; have := big_mul (by grind) e0 h3 h1; exact this.mono (by grind)
  · right; have := big_mul (by grind) e0 h3 h1; exact this.mono (by grind)
end Mine
end

section
open PySem PySem.W PyProof.Rows PySem.Calls
namespace Mine

noncomputable def LQ : List (Int × Int) := [(-4, 1), (-3, 1), (-2, 1), (-1, 1), (0, 1), (1, 1), (2, 1), (3, 1), (4, 1), (-3, 2), (-1, 2), (1, 2), (3, 2), (-4, 3), (-2, 3), (-1, 3), (1, 3), (2, 3), (4, 3)]
noncomputable def LK : List Int := [2, 3, 5, 6, 7]
noncomputable def FaIn : Fa → Prop
  | .lin q => q ∈ LQ
  | .sq k => k ∈ LK
  | .no c d => 1 ≤ c ∧ c ≤ 3 ∧ -1 ≤ d ∧ d ≤ 1
noncomputable def RtIn : Rt → Prop
  | .rat q => q ∈ LQ
  | .root s k => (s = 1 ∨ s = -1) ∧ k ∈ LK
theorem lq_pos {q : Int × Int} (h : q ∈ LQ) : 0 < q.2 ∧ q.2 ≤ 3 ∧ -4 * q.2 ≤ q.1 ∧ q.1 ≤ 4 * q.2 := by
  have key : ∀ q ∈ LQ, 0 < q.2 ∧ q.2 ≤ 3 ∧ -4 * q.2 ≤ q.1 ∧ q.1 ≤ 4 * q.2 := by decide +kernel
  exact key q h
theorem lq_ne {p q : Int × Int} (hp : p ∈ LQ) (hq : q ∈ LQ) (h : p ≠ q) : p.1 * q.2 ≠ q.1 * p.2 := by
  have key : ∀ p ∈ LQ, ∀ q ∈ LQ, p ≠ q → p.1 * q.2 ≠ q.1 * p.2 := by decide +kernel
  exact key p hp q hq h
theorem lq_lk {q : Int × Int} {k : Int} (hq : q ∈ LQ) (hk : k ∈ LK) : q.1 * q.1 - k * (q.2 * q.2) ≠ 0 := by
  have key : ∀ q ∈ LQ, ∀ k ∈ LK, q.1 * q.1 - k * (q.2 * q.2) ≠ 0 := by decide +kernel
  exact key q hq k hk
theorem lk_range {k : Int} (h : k ∈ LK) : 2 ≤ k ∧ k ≤ 7 := by
  have key : ∀ k ∈ LK, 2 ≤ k ∧ k ≤ 7 := by decide +kernel
  exact key k h
theorem sq_res {p : Nat} (hp : 0 < p) (key : ∀ r : Nat, r < p → (r * r) % p = 0 → r = 0) {a : Int} (h : (a * a) % (p : Int) = 0) : a % (p : Int) = 0 := by
  rw [Int.mul_emod] at h
  have hp' : (0 : Int) < p := Int.natCast_pos.mpr hp
  obtain ⟨r, hr⟩ := Int.eq_ofNat_of_zero_le (Int.emod_nonneg a (Int.ne_of_gt hp'))
  have hl := Int.emod_lt_of_pos a hp'
  rw [hr] at h hl ⊢
  rw [← Int.natCast_mul, ← Int.natCast_emod] at h
  rw [key r (Int.ofNat_lt.mp hl) (Int.ofNat_eq_zero.mp h)]; rfl
theorem no_square {k : Int} (hk : k ∈ LK) (n d : Int) (h : n * n = k * (d * d)) : (n % 2 = 0 ∧ d % 2 = 0) ∨ (n % 3 = 0 ∧ d % 3 = 0) ∨ (n % 5 = 0 ∧ d % 5 = 0) ∨ (n % 7 = 0 ∧ d % 7 = 0) := by
  have hk : k = 2 ∨ k = 3 ∨ k = 5 ∨ k = 6 ∨ k = 7 := by simpa [LK] using hk
  have step : ∀ p : Int, (p = 2 ∨ p = 3 ∨ p = 5 ∨ p = 7) → ∀ a : Int, (a * a) % p = 0 → a % p = 0 := by
    intro p hp a ha
    rcases hp with rfl | rfl | rfl | rfl
    · exact sq_res (p := 2) (by decide) (by decide) ha
    · exact sq_res (p := 3) (by decide) (by decide) ha
    · exact sq_res (p := 5) (by decide) (by decide) ha
    · exact sq_res (p := 7) (by decide) (by decide) ha
  have go : ∀ (p m : Int), (p = 2 ∨ p = 3 ∨ p = 5 ∨ p = 7) → (∀ w : Int, (m * w) % p = 0 → w % p = 0) → n * n = (p * m) * (d * d) → n % p = 0 ∧ d % p = 0 := by
    intro p m hp hm e
    have h1 : n % p = 0 := step p hp n (by rw [e, Int.mul_assoc]; exact Int.mul_emod_right p _)
    obtain ⟨t, rfl⟩ : p ∣ n := Int.dvd_of_emod_eq_zero h1
    refine ⟨h1, step p hp d (hm _ ?_)⟩
    have hp0 : p ≠ 0 := by omega
    have e2 : p * (p * (t * t)) = p * (m * (d * d)) := by grind
    have e3 := Int.eq_of_mul_eq_mul_left hp0 e2
    rw [← e3]; exact Int.mul_emod_right p _
  rcases hk with rfl | rfl | rfl | rfl | rfl
  · exact .inl (go 2 1 (by simp) (fun w hw => by omega) (by omega))
  · exact .inr (.inl (go 3 1 (by simp) (fun w hw => by omega) (by omega)))
  · exact .inr (.inr (.inl (go 5 1 (by simp) (fun w hw => by omega) (by omega))))
  · exact .inl (go 2 3 (by simp) (fun w hw => by omega) (by omega))
  · exact .inr (.inr (.inr (go 7 1 (by simp) (fun w hw => by omega) (by omega))))
theorem sq_ne {k : Int} (hk : k ∈ LK) (x : Rat) : x * x ≠ (k : Rat) := by
  intro h
  have hd : (x.den : Rat) ≠ 0 := by
    intro e
    exact x.den_nz (Rat.natCast_inj.mp e)
  have hx : x * (x.den : Rat) = (x.num : Rat) := by
    have h1 := Rat.num_divInt_den x
    rw [Rat.divInt_eq_div] at h1
    have h2 : (((x.den : Nat) : Int) : Rat) = (x.den : Rat) := rfl
    rw [h2] at h1
    have h3 : (x.num : Rat) / (x.den : Rat) * (x.den : Rat) = (x.num : Rat) := Rat.div_mul_cancel hd
    rw [h1] at h3
    exact h3
  have h1 : (x.num : Rat) * (x.num : Rat) = (k : Rat) * ((x.den : Rat) * (x.den : Rat)) := by rw [← hx]; grind
  have h2 : x.num * x.num = k * ((x.den : Int) * (x.den : Int)) := by
    apply Rat.intCast_inj.mp
    rw [Rat.intCast_mul, Rat.intCast_mul, Rat.intCast_mul]
    exact h1
  have h3 := x.reduced
  have key : ∀ p : Nat, 1 < p → x.num % (p : Int) = 0 → ((x.den : Nat) : Int) % (p : Int) = 0 → False := by
    intro p hp a b
    have a1 : p ∣ x.num.natAbs := Int.ofNat_dvd_left.mp (Int.dvd_of_emod_eq_zero a)
    have b1 : p ∣ x.den := Int.natCast_dvd_natCast.mp (Int.dvd_of_emod_eq_zero b)
    have := Nat.dvd_gcd a1 b1
    rw [h3] at this
    have := Nat.le_of_dvd (by decide) this
    omega
  rcases no_square hk _ _ h2 with ⟨a, b⟩ | ⟨a, b⟩ | ⟨a, b⟩ | ⟨a, b⟩
  · exact key 2 (by decide) a b
  · exact key 3 (by decide) a b
  · exact key 5 (by decide) a b
  · exact key 7 (by decide) a b
noncomputable def cut : Rt → Rat → Int
  | .rat q, x => sg (x - qv q)
  | .root s k, x => if s > 0 then (if 0 < x ∧ (k : Rat) < x * x then 1 else -1) else (if 0 ≤ x ∨ x * x < (k : Rat) then 1 else -1)
theorem sq_mono {x y : Rat} (h0 : 0 ≤ x) (h : x ≤ y) : x * x ≤ y * y := by
  have h1 := Rat.mul_le_mul_of_nonneg_left h h0
  have h2 := Rat.mul_le_mul_of_nonneg_right h (show 0 ≤ y by grind)
  grind
theorem sq_mono' {x y : Rat} (h0 : y ≤ 0) (h : x ≤ y) : y * y ≤ x * x := by
  have := sq_mono (x := -y) (y := -x) (by grind) (by grind)
  grind
theorem cut_ok {r : Rt} (h : RtIn r) : Cut (cut r) := by
  cases r with
  | rat q =>
    refine ⟨fun x => sg_cases _, fun x y hxy => ?_, fun x y hxy h0 => ?_⟩
    · simp only [cut, sg]; split <;> split <;> (try split) <;> (try split) <;> first | (exfalso; grind) | decide
    · simp only [cut, sg] at *
      split at h0
      · cases h0
      · split at h0
        · cases h0
        · rw [if_pos (by grind)]
  | root s k =>
    obtain ⟨hs, hk⟩ := h
    refine ⟨fun x => ?_, fun x y hxy => ?_, fun x y hxy h0 => ?_⟩
    · simp only [cut]; split <;> split <;> simp
    · simp only [cut]
      split
      · by_cases h1 : 0 < x ∧ (k : Rat) < x * x
        · have := sq_mono (Rat.le_of_lt h1.1) hxy
          rw [if_pos h1, if_pos ⟨by grind, by grind⟩]; decide
        · rw [if_neg h1]; split <;> decide
      · by_cases h1 : 0 ≤ y ∨ y * y < (k : Rat)
        · rw [if_pos h1]; split <;> decide
        · have h2 : ¬ (0 ≤ x ∨ x * x < (k : Rat)) := by
            have : y < 0 := by grind
            have := sq_mono' (Rat.le_of_lt this) hxy
            grind
          rw [if_neg h1, if_neg h2]; decide
    · simp only [cut] at h0
      split at h0 <;> split at h0 <;> cases h0
theorem cut_pos (k : Int) (x : Rat) : cut (.root 1 k) x = if 0 < x ∧ (k : Rat) < x * x then 1 else -1 := by
  simp only [cut]
  rw [if_pos (show (1 : Int) > 0 by decide)]
theorem cut_neg (k : Int) (x : Rat) : cut (.root (-1) k) x = if 0 ≤ x ∨ x * x < (k : Rat) then 1 else -1 := by
  simp only [cut]
  rw [if_neg (show ¬ (-1 : Int) > 0 by decide)]
theorem sg_mul (x y : Rat) : sg (x * y) = sg x * sg y := by
  have tri : x < 0 ∨ x = 0 ∨ 0 < x := by grind
  rcases tri with h | h | h
  · have e : sg x = -1 := by unfold sg; rw [if_neg (by grind), if_pos h]
    have := sg_mul_pos (x := y) (y := -x) (by grind)
    have e2 : sg (x * y) = - sg (y * -x) := by
      rw [show y * -x = -(x * y) by grind]
      unfold sg
      split <;> split <;> (try split) <;> (try split) <;> first | (exfalso; grind) | rfl
    rw [e2, this, e]; omega
  · rw [h]; simp [sg]
  · have e : sg x = 1 := by unfold sg; rw [if_pos h]
    rw [Rat.mul_comm, sg_mul_pos h, e]; omega
theorem no_pos {c d : Int} (h : FaIn (.no c d)) (x : Rat) : 3 / 4 ≤ ev (facS (.no c d)) x := by
  obtain ⟨h1, h2, h3, h4⟩ := h
  have hc : (1 : Rat) ≤ (c : Rat) := Rat.intCast_le_intCast (a := 1) |>.mpr h1
  have hd : d = -1 ∨ d = 0 ∨ d = 1 := by omega
  have hsq : ∀ u : Rat, 0 ≤ u * u := fun u => by
    by_cases h : 0 ≤ u
    · exact Rat.mul_nonneg h h
    · have := Rat.mul_nonneg (show 0 ≤ -u by grind) (show 0 ≤ -u by grind)
      grind
  have one : (((1 : Int)) : Rat) = 1 := rfl
  have hs := hsq (x + (d : Rat) * (1 / 2))
  simp only [facS, ev, one]
  rcases hd with rfl | rfl | rfl
  · have e : (((-1 : Int)) : Rat) = -1 := rfl
    rw [e] at hs ⊢; grind
  · have e : (((0 : Int)) : Rat) = 0 := rfl
    rw [e] at hs ⊢; grind
  · rw [one] at hs ⊢; grind
theorem qv_mul {q : Int × Int} (h : 0 < q.2) : qv q * (q.2 : Rat) = (q.1 : Rat) := by
  have := Rat.intCast_pos.mpr h
  unfold qv
  rw [Rat.mul_assoc, Rat.inv_mul_cancel _ (by grind), Rat.mul_one]
theorem fac_sign {fa : Fa} (h : FaIn fa) (x : Rat) : sg (ev (facS fa) x) = prodC ((rootsS fa).map cut) x := by
  have zero : (((0 : Int)) : Rat) = 0 := rfl
  have one : (((1 : Int)) : Rat) = 1 := rfl
  cases fa with
  | lin q =>
    have hq := lq_pos h
    have hb := Rat.intCast_pos.mpr hq.1
    have e := qv_mul hq.1
    have e2 : ev (facS (.lin q)) x = (x - qv q) * (q.2 : Rat) := by simp only [facS, ev, Rat.intCast_neg]; grind
    rw [e2, sg_mul_pos hb]
    simp [rootsS, prodC, cut]
  | sq k =>
    have hk := lk_range h
    have hk1 : (2 : Rat) ≤ (k : Rat) := Rat.intCast_le_intCast (a := 2) |>.mpr hk.1
    have hne := sq_ne h x
    have e2 : ev (facS (.sq k)) x = x * x - (k : Rat) := by simp only [facS, ev, Rat.intCast_neg, zero, one]; grind
    rw [e2]
    simp only [rootsS, List.map_cons, List.map_nil, prodC_cons, cut_pos, cut_neg]
    have pn : prodC [] x = 1 := rfl
    rw [pn]
    unfold sg
    by_cases hx : 0 ≤ x
    · have c0 : 0 ≤ x ∨ x * x < (k : Rat) := .inl hx
      by_cases h1 : (k : Rat) < x * x
      · have hx0 : 0 < x := by
          by_cases h0 : x = 0
          · rw [h0] at h1; grind
          · grind
        have c1 : 0 < x ∧ (k : Rat) < x * x := ⟨hx0, h1⟩
        have c2 : 0 < x * x - (k : Rat) := by grind
        simp [c0, c1, c2]
      · have c1 : ¬ (0 < x ∧ (k : Rat) < x * x) := fun h => h1 h.2
        have c2 : ¬ 0 < x * x - (k : Rat) := by grind
        have c3 : x * x - (k : Rat) < 0 := by grind
        rw [if_neg c2, if_pos c3, if_pos c0, if_neg c1]; rfl
    · have c1 : ¬ (0 < x ∧ (k : Rat) < x * x) := by grind
      by_cases h1 : x * x < (k : Rat)
      · have c2 : ¬ 0 < x * x - (k : Rat) := by grind
        have c3 : x * x - (k : Rat) < 0 := by grind
        have c0 : 0 ≤ x ∨ x * x < (k : Rat) := .inr h1
        rw [if_neg c2, if_pos c3, if_pos c0, if_neg c1]; rfl
      · have c2 : 0 < x * x - (k : Rat) := by grind
        have c0 : ¬ (0 ≤ x ∨ x * x < (k : Rat)) := by grind
        rw [if_pos c2, if_neg c0, if_neg c1]; rfl
  | no c d =>
    have := no_pos h x
    show sg _ = 1
    unfold sg; rw [if_pos (by grind)]
theorem no_apart {c d : Int} (h : FaIn (.no c d)) (g : List Int) : Apart (facS (.no c d)) g := fun M _ => ⟨3 / 4, by grind, fun x _ => .inl (.inl (no_pos h x))⟩
theorem fac_apart {fa fb : Fa} (ha : FaIn fa) (hb : FaIn fb) (h : fa ≠ fb) : Apart (facS fa) (facS fb) := by
  have zero : (((0 : Int)) : Rat) = 0 := rfl
  have one : (((1 : Int)) : Rat) = 1 := rfl
  cases fa with
  | no c d => exact no_apart ha _
  | lin p =>
    cases fb with
    | no c d => exact (no_apart hb _).symm
    | lin q =>
      have hne := lq_ne ha hb (fun e => h (by rw [e]))
      exact bez_of (u := [q.2]) (v := [-p.2]) (c := q.1 * p.2 - p.1 * q.2) (fun x => by simp only [facS, ev, Rat.intCast_neg, Rat.intCast_sub, Rat.intCast_mul]; grind) (by omega)
    | sq k =>
      exact bez_of (u := [-p.1, -p.2]) (v := [p.2 * p.2]) (c := p.1 * p.1 - k * (p.2 * p.2)) (fun x => by simp only [facS, ev, Rat.intCast_neg, Rat.intCast_sub, Rat.intCast_mul, zero, one]; grind) (lq_lk ha hb)
  | sq k =>
    cases fb with
    | no c d => exact (no_apart hb _).symm
    | lin p =>
      exact Apart.symm (bez_of (u := [-p.1, -p.2]) (v := [p.2 * p.2]) (c := p.1 * p.1 - k * (p.2 * p.2)) (fun x => by simp only [facS, ev, Rat.intCast_neg, Rat.intCast_sub, Rat.intCast_mul, zero, one]; grind) (lq_lk hb ha))
    | sq k' =>
      exact bez_of (u := [1]) (v := [-1]) (c := k' - k) (fun x => by
        have m1 : (((-1 : Int)) : Rat) = -1 := rfl
        simp only [facS, ev, Rat.intCast_neg, Rat.intCast_sub, Rat.intCast_mul, zero, one, m1]; grind) (fun e => h (by congr 1; omega))
theorem fac_sep {fa : Fa} (h : FaIn fa) : Sep (facS fa) := by
  have zero : (((0 : Int)) : Rat) = 0 := rfl
  have one : (((1 : Int)) : Rat) = 1 := rfl
  cases fa with
  | no c d => exact fun M _ => ⟨3 / 4, by grind, fun x _ => .inl (.inl (no_pos h x))⟩
  | lin q =>
    have hb : (1 : Rat) ≤ (q.2 : Rat) := Rat.intCast_le_intCast (a := 1) |>.mpr (lq_pos h).1
    exact fun M _ => ⟨1, by grind, fun x _ => .inr (.inl (by simp only [facS, ev, evd]; grind))⟩
  | sq k =>
    intro M hM
    have two : (((2 : Int)) : Rat) = 2 := rfl
    have m2 : (((-2 : Int)) : Rat) = -2 := rfl
    have hz : zder (facS (.sq k)) = [0, 2] := rfl
    obtain ⟨e, e0, he⟩ := bez_of (u := [-2]) (v := [0, 1]) (f := facS (.sq k)) (g := [0, 2]) (c := 2 * k) (fun x => by simp only [facS, ev, Rat.intCast_neg, Rat.intCast_mul, zero, one, two, m2]; grind) (by have := lk_range h; omega) M hM
    refine ⟨e, e0, fun x hx => ?_⟩
    rw [← ev_zder, hz]
    exact he x hx
end Mine
end

section
open PySem PySem.W PyProof.Rows PySem.Calls
namespace Mine

theorem sq_gap {x y : Rat} (h0 : 0 ≤ x) (h3 : x ≤ 3) (hxy : x ≤ y) (hd : y - x ≤ 1 / 100) : y * y - x * x ≤ 7 / 100 := by
  have h1 := Rat.mul_le_mul_of_nonneg_left hd (show 0 ≤ y + x by grind)
  grind
theorem root_in {k : Int} (hk : k ∈ LK) {x y : Rat} (hxy : x ≤ y) (hd : y - x ≤ 1 / 100) (h : inI x y (cut (.root 1 k)) = true) : 0 ≤ x ∧ x ≤ 3 ∧ x * x ≤ (k : Rat) ∧ (k : Rat) < y * y ∧ 1 < y := by
  have hr := lk_range hk
  have k2 : (2 : Rat) ≤ (k : Rat) := Rat.intCast_le_intCast (a := 2) |>.mpr hr.1
  have k7 : (k : Rat) ≤ 7 := Rat.intCast_le_intCast (b := 7) |>.mpr hr.2
  unfold inI at h
  rw [cut_pos, cut_pos] at h
  simp only [Bool.and_eq_true, beq_iff_eq, decide_eq_true_eq] at h
  have h1 : ¬ (0 < x ∧ (k : Rat) < x * x) := fun e => by rw [if_pos e] at h; omega
  have h2 : 0 < y ∧ (k : Rat) < y * y := by
    by_cases e : 0 < y ∧ (k : Rat) < y * y
    · exact e
    · rw [if_neg e] at h; omega
  have y1 : 1 < y := by
    by_cases e : 1 < y
    · exact e
    · have := sq_mono (show (0 : Rat) ≤ y by grind) (show y ≤ 1 by grind)
      grind
  have x0 : 0 < x := by grind
  have xk : x * x ≤ (k : Rat) := by grind
  refine ⟨by grind, ?_, xk, h2.2, y1⟩
  by_cases e : x ≤ 3
  · exact e
  · have := sq_mono (show (0 : Rat) ≤ 3 by grind) (show (3 : Rat) ≤ x by grind)
    grind
theorem root_in' {k : Int} (hk : k ∈ LK) {x y : Rat} (hxy : x ≤ y) (hd : y - x ≤ 1 / 100) (h : inI x y (cut (.root (-1) k)) = true) : 0 ≤ -y ∧ -y ≤ 3 ∧ y * y ≤ (k : Rat) ∧ (k : Rat) ≤ x * x ∧ x < -1 := by
  have hr := lk_range hk
  have k2 : (2 : Rat) ≤ (k : Rat) := Rat.intCast_le_intCast (a := 2) |>.mpr hr.1
  have k7 : (k : Rat) ≤ 7 := Rat.intCast_le_intCast (b := 7) |>.mpr hr.2
  unfold inI at h
  rw [cut_neg, cut_neg] at h
  simp only [Bool.and_eq_true, beq_iff_eq, decide_eq_true_eq] at h
  have h1 : ¬ (0 ≤ x ∨ x * x < (k : Rat)) := fun e => by rw [if_pos e] at h; omega
  have h2 : 0 ≤ y ∨ y * y < (k : Rat) := by
    by_cases e : 0 ≤ y ∨ y * y < (k : Rat)
    · exact e
    · rw [if_neg e] at h; omega
  have x1 : x < -1 := by
    by_cases e : x < -1
    · exact e
    · have := sq_mono (show (0 : Rat) ≤ -x by grind) (show -x ≤ 1 by grind)
      grind
  have y0 : y < 0 := by grind
  have hyk : y * y < (k : Rat) := by grind
  refine ⟨by grind, ?_, by grind, by grind, x1⟩
  by_cases e : -y ≤ 3
  · exact e
  · have := sq_mono (show (0 : Rat) ≤ 3 by grind) (show (3 : Rat) ≤ -y by grind)
    grind
theorem rat_in {q : Int × Int} {x y : Rat} (h : inI x y (cut (.rat q)) = true) : x < qv q ∧ qv q ≤ y := by
  unfold inI at h
  rw [Bool.and_eq_true, beq_iff_eq, decide_eq_true_eq] at h
  obtain ⟨h1, h2⟩ := h
  simp only [cut, sg] at h1 h2
  constructor
  · split at h1
    · cases h1
    · split at h1
      · grind
      · cases h1
  · by_cases e : 0 < y - qv q
    · grind
    · by_cases e2 : y - qv q < 0
      · rw [if_neg e, if_pos e2] at h2; exact absurd h2 (by decide)
      · grind
theorem rat_root_far {q : Int × Int} {k : Int} (hq : q ∈ LQ) (hk : k ∈ LK) : ¬ (Bd (1 / 10) (qv q * qv q - (k : Rat))) := by
  intro h
  have hp := lq_pos hq
  have e := qv_mul hp.1
  have hne := lq_lk hq hk
  have b3 : (q.2 : Rat) ≤ 3 := Rat.intCast_le_intCast (b := 3) |>.mpr hp.2.1
  have b0 : (1 : Rat) ≤ (q.2 : Rat) := Rat.intCast_le_intCast (a := 1) |>.mpr hp.1
  have bb := sq_mono (show (0 : Rat) ≤ (q.2 : Rat) by grind) b3
  have hb : Bd 9 ((q.2 : Rat) * (q.2 : Rat)) := by
    have := sq_mono (show (0 : Rat) ≤ 1 by grind) b0
    unfold Bd; grind
  have h2 := h.mul hb
  have e2 : (qv q * qv q - (k : Rat)) * ((q.2 : Rat) * (q.2 : Rat)) = ((q.1 * q.1 - k * (q.2 * q.2) : Int) : Rat) := by
    rw [Rat.intCast_sub, Rat.intCast_mul, Rat.intCast_mul, Rat.intCast_mul, ← e]; grind
  rw [e2] at h2
  have h3 : (1 : Rat) ≤ ((q.1 * q.1 - k * (q.2 * q.2) : Int) : Rat) ∨ ((q.1 * q.1 - k * (q.2 * q.2) : Int) : Rat) ≤ -1 := by
    by_cases hc : 0 < q.1 * q.1 - k * (q.2 * q.2)
    · exact .inl (Rat.intCast_le_intCast (a := 1) |>.mpr hc)
    · exact .inr (Rat.intCast_le_intCast (b := -1) |>.mpr (by omega))
  unfold Bd at h2; grind
theorem rat_rat_far {p q : Int × Int} (hp : p ∈ LQ) (hq : q ∈ LQ) (h : p ≠ q) : ¬ (Bd (1 / 10) (qv p - qv q)) := by
  intro hb
  have p1 := lq_pos hp
  have q1 := lq_pos hq
  have e1 := qv_mul p1.1
  have e2 := qv_mul q1.1
  have hne := lq_ne hp hq h
  have c1 : Bd 3 (p.2 : Rat) := by
    have : (p.2 : Rat) ≤ 3 := Rat.intCast_le_intCast (b := 3) |>.mpr p1.2.1
    have : (1 : Rat) ≤ (p.2 : Rat) := Rat.intCast_le_intCast (a := 1) |>.mpr p1.1
    unfold Bd; grind
  have c2 : Bd 3 (q.2 : Rat) := by
    have : (q.2 : Rat) ≤ 3 := Rat.intCast_le_intCast (b := 3) |>.mpr q1.2.1
    have : (1 : Rat) ≤ (q.2 : Rat) := Rat.intCast_le_intCast (a := 1) |>.mpr q1.1
    unfold Bd; grind
  have h2 := hb.mul (c1.mul c2)
  have e3 : (qv p - qv q) * ((p.2 : Rat) * (q.2 : Rat)) = ((p.1 * q.2 - q.1 * p.2 : Int) : Rat) := by
    rw [Rat.intCast_sub, Rat.intCast_mul, Rat.intCast_mul, ← e1, ← e2]; grind
  rw [e3] at h2
  have h3 : (1 : Rat) ≤ ((p.1 * q.2 - q.1 * p.2 : Int) : Rat) ∨ ((p.1 * q.2 - q.1 * p.2 : Int) : Rat) ≤ -1 := by
    by_cases hc : 0 < p.1 * q.2 - q.1 * p.2
    · exact .inl (Rat.intCast_le_intCast (a := 1) |>.mpr hc)
    · exact .inr (Rat.intCast_le_intCast (b := -1) |>.mpr (by omega))
  unfold Bd at h2; grind
theorem cut_far {r r' : Rt} (h : RtIn r) (h' : RtIn r') (hne : r ≠ r') {x y : Rat} (hxy : x ≤ y) (hd : y - x ≤ 1 / 100) (h1 : inI x y (cut r) = true) (h2 : inI x y (cut r') = true) : False := by
  have rr : ∀ (q : Int × Int) (s k : Int), q ∈ LQ → (s = 1 ∨ s = -1) → k ∈ LK → inI x y (cut (.rat q)) = true → inI x y (cut (.root s k)) = true → False := by
    intro q s k hq hs hk a b
    obtain ⟨a1, a2⟩ := rat_in a
    rcases hs with rfl | rfl
    · obtain ⟨b1, b2, b3, b4, b5⟩ := root_in hk hxy hd b
      have g := sq_gap b1 b2 hxy hd
      have m1 := sq_mono b1 (Rat.le_of_lt a1)
      have m2 := sq_mono (show 0 ≤ qv q by grind) a2
      exact rat_root_far hq hk (by unfold Bd; grind)
    · obtain ⟨b1, b2, b3, b4, b5⟩ := root_in' hk hxy hd b
      have g := sq_gap (x := -y) (y := -x) b1 b2 (by grind) (by grind)
      have m1 := sq_mono' (x := x) (y := qv q) (by grind) (Rat.le_of_lt a1)
      have m2 := sq_mono' (x := qv q) (y := y) (by grind) a2
      exact rat_root_far hq hk (by unfold Bd; grind)
  have kk : ∀ k k' : Int, k ≠ k' → ¬ Bd (1 / 2) ((k : Rat) - (k' : Rat)) := by
    intro k k' hk hb
    rw [← Rat.intCast_sub] at hb
    have h3 : (1 : Rat) ≤ ((k - k' : Int) : Rat) ∨ ((k - k' : Int) : Rat) ≤ -1 := by
      by_cases hc : 0 < k - k'
      · exact .inl (Rat.intCast_le_intCast (a := 1) |>.mpr hc)
      · exact .inr (Rat.intCast_le_intCast (b := -1) |>.mpr (by omega))
    unfold Bd at hb; grind
  cases r with
  | rat p =>
    cases r' with
    | rat q =>
      obtain ⟨a1, a2⟩ := rat_in h1
      obtain ⟨b1, b2⟩ := rat_in h2
      exact rat_rat_far h h' (fun e => hne (by rw [e])) (by unfold Bd; grind)
    | root s k => exact rr p s k h h'.1 h'.2 h1 h2
  | root s k =>
    cases r' with
    | rat p => exact rr p s k h' h.1 h.2 h2 h1
    | root s' k' =>
      obtain ⟨hs, hk⟩ := h
      obtain ⟨hs', hk'⟩ := h'
      rcases hs with rfl | rfl <;> rcases hs' with rfl | rfl
      · obtain ⟨a1, a2, a3, a4, a5⟩ := root_in hk hxy hd h1
        obtain ⟨b1, b2, b3, b4, b5⟩ := root_in hk' hxy hd h2
        have g := sq_gap a1 a2 hxy hd
        exact kk k k' (fun e => hne (by rw [e])) (by unfold Bd; grind)
      · obtain ⟨a1, a2, a3, a4, a5⟩ := root_in hk hxy hd h1
        obtain ⟨b1, b2, b3, b4, b5⟩ := root_in' hk' hxy hd h2
        grind
      · obtain ⟨a1, a2, a3, a4, a5⟩ := root_in' hk hxy hd h1
        obtain ⟨b1, b2, b3, b4, b5⟩ := root_in hk' hxy hd h2
        grind
      · obtain ⟨a1, a2, a3, a4, a5⟩ := root_in' hk hxy hd h1
        obtain ⟨b1, b2, b3, b4, b5⟩ := root_in' hk' hxy hd h2
        have g := sq_gap (x := -y) (y := -x) a1 a2 (by grind) (by grind)
        exact kk k k' (fun e => hne (by rw [e])) (by unfold Bd; grind)
theorem cnt_one {R : List Rt} (hR : ∀ r ∈ R, RtIn r) (hN : R.Nodup) {x y : Rat} (hxy : x ≤ y) (hd : y - x ≤ 1 / 100) : cnt (R.map cut) x y ≤ 1 := by
  induction R with
  | nil => exact Nat.zero_le _
  | cons r R ih =>
    obtain ⟨n1, n2⟩ := List.nodup_cons.mp hN
    unfold cnt at *
    rw [List.map_cons, List.countP_cons]
    by_cases h : inI x y (cut r) = true
    · have h0 : (R.map cut).countP (inI x y) = 0 := by
        rw [List.countP_eq_zero]
        intro c hc h'
        obtain ⟨r', hr', rfl⟩ := List.mem_map.mp hc
        exact cut_far (hR r (.head _)) (hR r' (.tail _ hr')) (fun e => n1 (e ▸ hr')) hxy hd h h'
      rw [h0, if_pos h]; decide
    · rw [if_neg h]
      exact ih (fun s hs => hR s (.tail _ hs)) n2
theorem rootsS_in {fa : Fa} (h : FaIn fa) : ∀ r ∈ rootsS fa, RtIn r := by
  cases fa with
  | lin q => intro r hr; rw [List.mem_singleton.mp hr]; exact h
  | sq k => intro r hr; simp only [rootsS, List.mem_cons, List.not_mem_nil, or_false] at hr; rcases hr with rfl | rfl <;> exact ⟨by simp, h⟩
  | no c d => intro r hr; cases hr
theorem rootsS_apart {fa fb : Fa} (h : fa ≠ fb) : ∀ r ∈ rootsS fa, r ∉ rootsS fb := by
  intro r h1 h2
  cases fa <;> cases fb <;> simp only [rootsS, List.mem_cons, List.not_mem_nil, or_false] at h1 h2
  · subst h1; cases h2; exact h rfl
  · subst h1; rcases h2 with h2 | h2 <;> cases h2
  · subst h2; rcases h1 with h1 | h1 <;> cases h1
  · rcases h1 with rfl | rfl <;> rcases h2 with h2 | h2 <;> cases h2 <;> exact h rfl
theorem rootsS_nodup (fa : Fa) : (rootsS fa).Nodup := by
  cases fa <;> simp [rootsS]
noncomputable def rootsL (S : List Fa) : List Rt := S.flatMap rootsS
theorem rootsL_in {S : List Fa} (h : ∀ fa ∈ S, FaIn fa) : ∀ r ∈ rootsL S, RtIn r := fun r hr => by
  obtain ⟨fa, h1, h2⟩ := List.mem_flatMap.mp hr
  exact rootsS_in (h fa h1) r h2
theorem rootsL_nodup : ∀ {S : List Fa}, S.Nodup → (rootsL S).Nodup
  | [], _ => .nil
  | fa :: S, h => by
    obtain ⟨h1, h2⟩ := List.nodup_cons.mp h
    unfold rootsL
    rw [List.flatMap_cons]
    refine List.nodup_append.mpr ⟨rootsS_nodup fa, rootsL_nodup h2, fun a ha b hb e => ?_⟩
    subst e
    obtain ⟨fb, h3, h4⟩ := List.mem_flatMap.mp hb
    exact rootsS_apart (fun e : fa = fb => h1 (by rw [e]; exact h3)) a ha h4
theorem prodC_append (A B : Cuts) (x : Rat) : prodC (A ++ B) x = prodC A x * prodC B x := by
  induction A with
  | nil => show _ = 1 * _; rw [Int.one_mul]; rfl
  | cons c A ih => rw [List.cons_append, prodC_cons, prodC_cons, ih, Int.mul_assoc]
theorem prod_sign : ∀ {S : List Fa}, (∀ fa ∈ S, FaIn fa) → ∀ x, sg (ev (prodL (S.map facS)) x) = prodC ((rootsL S).map cut) x
  | [], _, x => by simp [prodL, ev, sg, rootsL, prodC]; grind
  | fa :: S, h, x => by
    have ih := prod_sign (S := S) (fun fb hb => h fb (.tail _ hb)) x
    show sg (ev (pmul (facS fa) (prodL (S.map facS))) x) = prodC (((fa :: S).flatMap rootsS).map cut) x
    rw [(ev_pmul _ _ x).1, sg_mul, ih, fac_sign (h fa (.head _)), List.flatMap_cons, List.map_append, prodC_append]; rfl
theorem known_of {S : List Fa} {g : List Int} {κ : Int} (hS : ∀ fa ∈ S, FaIn fa) (hN : S.Nodup) (ht : Tr g) (h0 : g ≠ []) (hκ : κ ≠ 0) (hg : ∀ x, ev g x = (κ : Rat) * ev (prodL (S.map facS)) x) : Known g ((rootsL S).map cut) where
  tr := ht
  ne := h0
  cuts := fun c hc => by
    obtain ⟨r, hr, rfl⟩ := List.mem_map.mp hc
    exact cut_ok (rootsL_in hS r hr)
  sign := ⟨sgn κ, by
    rw [sgn_eq]
    by_cases h1 : 0 < κ
    · rw [if_pos h1]; exact .inl rfl
    · rw [if_neg h1, if_pos (by omega)]; exact .inr rfl, fun x => by rw [hg, sg_mul, sg_int, prod_sign hS]⟩
  sep := ⟨1 / 100, by grind, fun x y hxy hd => cnt_one (rootsL_in hS) (rootsL_nodup hN) hxy hd⟩
  bez := sep_of hκ (sep_prod _ (fun f hf => by
    obtain ⟨fa, h1, rfl⟩ := List.mem_map.mp hf
    exact fac_sep (hS fa h1)) (by
    refine List.pairwise_map.mpr (List.Pairwise.imp_of_mem (fun {a b} ha hb hab => fac_apart (hS a ha) (hS b hb) hab) hN))) hg
end Mine
end

section
open PySem PySem.W PyProof.Rows PySem.Calls
namespace Mine

noncomputable def Red (q : Int × Int) : Prop := 0 < q.2 ∧ Int.gcd q.1 q.2 = 1
theorem lq_red {q : Int × Int} (h : q ∈ LQ) : Red q := by
  have key : ∀ q ∈ LQ, 0 < q.2 ∧ Int.gcd q.1 q.2 = 1 := by decide +kernel
  exact key q h
theorem qv_lt {p q : Int × Int} (hp : 0 < p.2) (hq : 0 < q.2) : qv p < qv q ↔ p.1 * q.2 < q.1 * p.2 := by
  have e1 := qv_mul hp
  have e2 := qv_mul hq
  have p0 := Rat.intCast_pos.mpr hp
  have q0 := Rat.intCast_pos.mpr hq
  have e3 : qv p * ((p.2 : Rat) * (q.2 : Rat)) = ((p.1 * q.2 : Int) : Rat) := by rw [Rat.intCast_mul, ← e1]; grind
  have e4 : qv q * ((p.2 : Rat) * (q.2 : Rat)) = ((q.1 * p.2 : Int) : Rat) := by rw [Rat.intCast_mul, ← e2]; grind
  have pq := Rat.mul_pos p0 q0
  rw [← Rat.intCast_lt_intCast, ← e3, ← e4]
  exact ⟨fun h => Rat.mul_lt_mul_of_pos_right h pq, fun h => Rat.lt_of_mul_lt_mul_right h (Rat.le_of_lt pq)⟩
theorem ratLess_iff {p q : Int × Int} (hp : 0 < p.2) (hq : 0 < q.2) : ratLess p q = true ↔ qv p < qv q := by
  unfold ratLess; rw [decide_eq_true_eq, qv_lt hp hq]
theorem qv_eq {p q : Int × Int} (hp : 0 < p.2) (hq : 0 < q.2) (h : qv p = qv q) : p.1 * q.2 = q.1 * p.2 := by
  have h1 := (not_congr (qv_lt hp hq)).mp (by grind)
  have h2 := (not_congr (qv_lt hq hp)).mp (by grind)
  omega
theorem dvd_cancel {a b c : Int} (h : a ∣ b * c) (hg : Int.gcd b a = 1) : a ∣ c := by
  have h1 := Int.natAbs_dvd_natAbs.mpr h
  rw [Int.natAbs_mul] at h1
  have h2 : Nat.Coprime a.natAbs b.natAbs := by unfold Nat.Coprime; rw [Nat.gcd_comm]; exact hg
  exact Int.natAbs_dvd_natAbs.mp (h2.dvd_of_dvd_mul_left h1)
theorem red_eq {p q : Int × Int} (hp : Red p) (hq : Red q) (h : qv p = qv q) : p = q := by
  have e := qv_eq hp.1 hq.1 h
  obtain ⟨p1, p2⟩ := p
  obtain ⟨q1, q2⟩ := q
  obtain ⟨a1, a2⟩ := hp
  obtain ⟨b1, b2⟩ := hq
  simp only at *
  have d1 : p2 ∣ q2 := by
    have h1 : p2 ∣ p1 * q2 := ⟨q1, by rw [e, Int.mul_comm]⟩
    exact dvd_cancel h1 a2
  have d2 : q2 ∣ p2 := by
    have h1 : q2 ∣ q1 * p2 := ⟨p1, by rw [← e, Int.mul_comm]⟩
    exact dvd_cancel h1 b2
  have e2 : p2 = q2 := Int.le_antisymm (Int.le_of_dvd b1 d1) (Int.le_of_dvd a1 d2)
  subst e2
  have := Int.eq_of_mul_eq_mul_right (by omega) e
  rw [this]
theorem above_iff {r : Rt} (hr : RtIn r) {q : Int × Int} (hq : 0 < q.2) : above q r = true ↔ cut r (qv q) = 1 := by
  have q0 := Rat.intCast_pos.mpr hq
  have e := qv_mul hq
  cases r with
  | rat p =>
    have hp := (lq_pos hr).1
    show ratLess p q = true ↔ sg (qv q - qv p) = 1
    rw [ratLess_iff hp hq]
    unfold sg
    constructor
    · intro h; rw [if_pos (by grind)]
    · intro h
      by_cases h1 : 0 < qv q - qv p
      · grind
      · rw [if_neg h1] at h; split at h <;> omega
  | root s k =>
    obtain ⟨hs, hk⟩ := hr
    have hsq : ((q.1 * q.1 : Int) : Rat) = qv q * qv q * ((q.2 : Rat) * (q.2 : Rat)) := by rw [Rat.intCast_mul, ← e]; grind
    have hkk : ((k * q.2 * q.2 : Int) : Rat) = (k : Rat) * ((q.2 : Rat) * (q.2 : Rat)) := by rw [Rat.intCast_mul, Rat.intCast_mul]; grind
    have bb := Rat.mul_pos q0 q0
    have c1 : k * q.2 * q.2 < q.1 * q.1 ↔ (k : Rat) < qv q * qv q := by
      rw [← Rat.intCast_lt_intCast, hsq, hkk]
      exact ⟨fun h => Rat.lt_of_mul_lt_mul_right h (Rat.le_of_lt bb), fun h => Rat.mul_lt_mul_of_pos_right h bb⟩
    have c2 : q.1 * q.1 < k * q.2 * q.2 ↔ qv q * qv q < (k : Rat) := by
      rw [← Rat.intCast_lt_intCast, hsq, hkk]
      exact ⟨fun h => Rat.lt_of_mul_lt_mul_right h (Rat.le_of_lt bb), fun h => Rat.mul_lt_mul_of_pos_right h bb⟩
    have c3 : 0 < q.1 ↔ 0 < qv q := by
      rw [← Rat.intCast_pos, ← e]
      constructor
      · intro h
        have : (0 : Rat) * (q.2 : Rat) < qv q * (q.2 : Rat) := by grind
        exact Rat.lt_of_mul_lt_mul_right this (Rat.le_of_lt q0)
      · intro h; exact Rat.mul_pos h q0
    have c4 : q.1 ≥ 0 ↔ 0 ≤ qv q := by
      have : q.1 < 0 ↔ qv q < 0 := by
        rw [← Rat.intCast_neg_iff, ← e]
        constructor
        · intro h
          have : qv q * (q.2 : Rat) < (0 : Rat) * (q.2 : Rat) := by grind
          exact Rat.lt_of_mul_lt_mul_right this (Rat.le_of_lt q0)
        · intro h
          have := Rat.mul_pos (show 0 < -qv q by grind) q0
          grind
      constructor
      · intro h
        have : ¬ qv q < 0 := fun h' => by have := this.mpr h'; omega
        grind
      · intro h
        have : ¬ q.1 < 0 := fun h' => by have := this.mp h'; grind
        omega
    rcases hs with rfl | rfl
    · rw [cut_pos]
      have e1 : above q (.root 1 k) = (decide (0 < q.1) && decide (k * q.2 * q.2 < q.1 * q.1)) := rfl
      rw [e1, Bool.and_eq_true, decide_eq_true_eq, decide_eq_true_eq, c1, c3]
      by_cases h : 0 < qv q ∧ (k : Rat) < qv q * qv q
      · rw [if_pos h]; simp [h]
      · rw [if_neg h]; simp only [h, false_iff]; decide
    · rw [cut_neg]
      have e1 : above q (.root (-1) k) = (decide (q.1 ≥ 0) || decide (q.1 * q.1 < k * q.2 * q.2)) := rfl
      rw [e1, Bool.or_eq_true, decide_eq_true_eq, decide_eq_true_eq, c2, c4]
      by_cases h : 0 ≤ qv q ∨ qv q * qv q < (k : Rat)
      · rw [if_pos h]; simp [h]
      · rw [if_neg h]; simp only [h, false_iff]; decide
theorem atMost_iff {r : Rt} (hr : RtIn r) {q : Int × Int} (hq : Red q) : atMost r q = true ↔ 0 ≤ cut r (qv q) := by
  unfold atMost
  rw [Bool.or_eq_true, above_iff hr hq.1, decide_eq_true_eq]
  have hv := (cut_ok hr).val (qv q)
  constructor
  · rintro (h | h)
    · omega
    · subst h
      show 0 ≤ sg (qv q - qv q)
      rw [Rat.sub_self]; decide
  · intro h
    by_cases h1 : cut r (qv q) = 1
    · exact .inl h1
    · right
      have h0 : cut r (qv q) = 0 := by omega
      cases r with
      | rat p =>
        have h2 : sg (qv q - qv p) = 0 := h0
        have h3 : qv q = qv p := by
          unfold sg at h2
          split at h2
          · omega
          · split at h2
            · omega
            · grind
        rw [red_eq hq (lq_red hr) h3]
      | root s k =>
        exfalso
        obtain ⟨hs, hk⟩ := hr
        rcases hs with rfl | rfl
        · rw [cut_pos] at h0; split at h0 <;> omega
        · rw [cut_neg] at h0; split at h0 <;> omega
theorem counted_cnt {told : List Rt} (ht : ∀ r ∈ told, RtIn r) {p q : Int × Int} (hp : Red p) (hq : Red q) : counted told p q = ((cnt (told.map cut) (qv p) (qv q) : Nat) : Int) := by
  unfold counted cnt
  rw [List.countP_map, List.countP_eq_length_filter]
  congr 2
  refine List.filter_congr fun r hr => ?_
  have hr' := ht r hr
  have h1 := atMost_iff hr' hp
  have h2 := atMost_iff hr' hq
  have hv := (cut_ok hr').val (qv p)
  rw [Bool.eq_iff_iff, Function.comp_apply]
  unfold inI
  rw [Bool.and_eq_true, Bool.and_eq_true, Bool.not_eq_true', beq_iff_eq, decide_eq_true_eq, h2]
  constructor
  · rintro ⟨a, b⟩
    refine ⟨?_, b⟩
    have : ¬ 0 ≤ cut r (qv p) := fun h => by rw [h1.mpr h] at a; cases a
    omega
  · rintro ⟨a, b⟩
    refine ⟨?_, b⟩
    cases h : atMost r p with
    | false => rfl
    | true => have := h1.mp h; omega
theorem cnt_perm {A B : Cuts} (h : A.Perm B) (x y : Rat) : cnt A x y = cnt B x y := h.countP_eq _
theorem cut_out {r : Rt} (h : RtIn r) {x : Rat} : (x ≤ -5 → cut r x = -1) ∧ (5 ≤ x → cut r x = 1) := by
  cases r with
  | rat q =>
    have hp := lq_pos h
    have e := qv_mul hp.1
    have q0 := Rat.intCast_pos.mpr hp.1
    have h1 : (((-4 * q.2 : Int)) : Rat) ≤ (q.1 : Rat) := Rat.intCast_le_intCast.mpr hp.2.2.1
    have h2 : (q.1 : Rat) ≤ (((4 * q.2 : Int)) : Rat) := Rat.intCast_le_intCast.mpr hp.2.2.2
    have four : (((4 : Int)) : Rat) = 4 := rfl
    have m4 : (((-4 : Int)) : Rat) = -4 := rfl
    rw [Rat.intCast_mul, m4, ← e] at h1
    rw [Rat.intCast_mul, four, ← e] at h2
    have h3 := Rat.le_of_mul_le_mul_right h1 q0
    have h4 := Rat.le_of_mul_le_mul_right h2 q0
    constructor
    · intro hx; show sg (x - qv q) = -1; unfold sg; rw [if_neg (by grind), if_pos (by grind)]
    · intro hx; show sg (x - qv q) = 1; unfold sg; rw [if_pos (by grind)]
  | root s k =>
    obtain ⟨hs, hk⟩ := h
    have k7 : (k : Rat) ≤ 7 := Rat.intCast_le_intCast (b := 7) |>.mpr (lk_range hk).2
    constructor
    · intro hx
      have := sq_mono (x := 5) (y := -x) (by grind) (by grind)
      rcases hs with rfl | rfl
      · rw [cut_pos, if_neg (by grind)]
      · rw [cut_neg, if_neg (by grind)]
    · intro hx
      have := sq_mono (x := 5) (y := x) (by grind) hx
      rcases hs with rfl | rfl
      · rw [cut_pos, if_pos (by grind)]
      · rw [cut_neg, if_pos (by grind)]
theorem cnt_all {R : List Rt} {x y : Rat} (h : ∀ r ∈ R, cut r x = -1 ∧ 0 ≤ cut r y) : cnt (R.map cut) x y = R.length := by
  unfold cnt
  rw [List.countP_map]
  refine List.countP_eq_length.mpr fun r hr => ?_
  obtain ⟨h1, h2⟩ := h r hr
  simp [inI, h1, h2]
theorem cnt_none {R : List Rt} {x y : Rat} (h : ∀ r ∈ R, cut r x ≠ -1 ∨ cut r y = -1) : cnt (R.map cut) x y = 0 := by
  unfold cnt
  rw [List.countP_map, List.countP_eq_zero]
  intro r hr e
  simp only [Function.comp_apply, inI, Bool.and_eq_true, beq_iff_eq, decide_eq_true_eq] at e
  rcases h r hr with h1 | h1 <;> omega
section
variable {g : List Int} {R : List Rt}
theorem count_fin (K : Known g (R.map cut)) {p q : Int × Int} (hp : 0 < p.2) (hq : 0 < q.2) (h : qv p ≤ qv q) : countRow (sturm g) (.fin p) (.fin q) = ((cnt (R.map cut) (qv p) (qv q) : Nat) : Int) := by
  unfold countRow
  rw [changes_fin hp, changes_fin hq, sturm_count K h]
theorem count_far (K : Known g (R.map cut)) (hR : ∀ r ∈ R, RtIn r) : countRow (sturm g) .neg .pos = ((R.length : Nat) : Int) := by
  obtain ⟨m, m0, h⟩ := changes_far K.tr K.ne
  unfold countRow
  rw [(h (-(m + 5))).1 (by grind), (h (m + 5)).2 (by grind), sturm_count K (by grind), cnt_all fun r hr => ⟨(cut_out (hR r hr)).1 (by grind), by rw [(cut_out (hR r hr)).2 (by grind)]; decide⟩]
theorem changes_low (K : Known g (R.map cut)) (hR : ∀ r ∈ R, RtIn r) {q : Int × Int} (hq : 0 < q.2) (h : ∀ r ∈ R, cut r (qv q) = -1) : changes (sgnAt (.fin q)) (sturm g) = changes (sgnAt .neg) (sturm g) := by
  obtain ⟨m, m0, hm⟩ := changes_far K.tr K.ne
  obtain ⟨L, l0, hl⟩ := Bd.self (qv q)
  have h1 := sturm_count K (x := -(m + L)) (y := qv q) (by unfold Bd at hl; grind)
  rw [cnt_none fun r hr => .inr (h r hr)] at h1
  rw [changes_fin hq, (hm (-(m + L))).1 (by grind)]
  omega
theorem changes_high (K : Known g (R.map cut)) (hR : ∀ r ∈ R, RtIn r) {q : Int × Int} (hq : 0 < q.2) (h : ∀ r ∈ R, cut r (qv q) ≠ -1) : changes (sgnAt (.fin q)) (sturm g) = changes (sgnAt .pos) (sturm g) := by
  obtain ⟨m, m0, hm⟩ := changes_far K.tr K.ne
  obtain ⟨L, l0, hl⟩ := Bd.self (qv q)
  have h1 := sturm_count K (x := qv q) (y := m + L) (by unfold Bd at hl; grind)
  rw [cnt_none fun r hr => .inl (h r hr)] at h1
  rw [changes_fin hq, (hm (m + L)).2 (by grind)]
  omega
end
theorem cauchy {L M x : Rat} (hL : 0 < L) (hx : 1 ≤ x ∨ x ≤ -1) (hM : L + M ≤ L * x ∨ L + M ≤ L * -x) : ∀ p : List Int, p ≠ [] → (∀ c ∈ p, Bd M (c : Rat)) → Big L ((lead p : Int) : Rat) → Big L (ev p x)
  | [], h, _, _ => absurd rfl h
  | [c], _, _, hl => by
    have e : ev [c] x = (c : Rat) := by simp [ev]; grind
    rw [e]; exact hl
  | c :: d :: l, _, hc, hl => by
    have ih := cauchy hL hx hM (d :: l) (by simp) (fun e he => hc e (.tail _ he)) hl
    have hc0 := hc c (.head _)
    rw [ev]
    unfold Big Bd at *
    generalize ev (d :: l) x = v at ih ⊢
    rcases hM with hM | hM
    · have x0 : 0 ≤ x := by
        rcases hx with h | h
        · grind
        · have := Rat.mul_nonneg (Rat.le_of_lt hL) (show 0 ≤ -x by grind)
          grind
      rcases ih with ih | ih
      · have := Rat.mul_le_mul_of_nonneg_left ih x0
        left; grind
      · have := Rat.mul_le_mul_of_nonneg_left ih x0
        right; grind
    · have x0 : 0 ≤ -x := by
        rcases hx with h | h
        · have := Rat.mul_nonneg (Rat.le_of_lt hL) (show 0 ≤ x by grind)
          grind
        · grind
      rcases ih with ih | ih
      · have := Rat.mul_le_mul_of_nonneg_left ih x0
        right; grind
      · have := Rat.mul_le_mul_of_nonneg_left ih x0
        left; grind
end Mine
end

section
open PySem PySem.W PyProof.Rows PySem.Calls
namespace Mine

theorem ratS_red {t b : Int} (hb : 0 < b) : Red (ratS t b) ∧ qv (ratS t b) = (t : Rat) * (b : Rat)⁻¹ := by
  have hg : (0 : Int) < gcdI t b := by
    have h0 := gcdI_nonneg t b
    have h1 := gcdI_ne (a := t) (b := b) (by omega)
    omega
  have d1 : gcdI t b ∣ t := Int.gcd_dvd_left ..
  have d2 : gcdI t b ∣ b := Int.gcd_dvd_right ..
  have e : ratS t b = (t.fdiv (gcdI t b), b.fdiv (gcdI t b)) := by
    unfold ratS; simp only [gt_iff_lt, hb, if_true]
  have e1 := Int.mul_fdiv_cancel' d1
  have e2 := Int.mul_fdiv_cancel' d2
  rw [e]
  have hq : 0 < b.fdiv (gcdI t b) := by
    by_cases h : 0 < b.fdiv (gcdI t b)
    · exact h
    · have := Int.mul_le_mul_of_nonneg_left (show b.fdiv (gcdI t b) ≤ 0 by omega) (Int.le_of_lt hg)
      omega
  refine ⟨⟨hq, ?_⟩, ?_⟩
  · have h1 : Int.gcd (gcdI t b * t.fdiv (gcdI t b)) (gcdI t b * b.fdiv (gcdI t b)) = (gcdI t b).natAbs * Int.gcd (t.fdiv (gcdI t b)) (b.fdiv (gcdI t b)) := Int.gcd_mul_left ..
    rw [e1, e2] at h1
    have h2 : (gcdI t b).natAbs = Int.gcd t b := rfl
    rw [h2] at h1
    have h3 : 0 < Int.gcd t b := by have : (0 : Int) < (Int.gcd t b : Nat) := hg; omega
    show Int.gcd (t.fdiv (gcdI t b)) (b.fdiv (gcdI t b)) = 1
    exact Nat.eq_of_mul_eq_mul_left h3 (by rw [Nat.mul_one]; exact h1.symm)
  · have g0 := Rat.intCast_pos.mpr hg
    have q0 := Rat.intCast_pos.mpr hq
    have b0 := Rat.intCast_pos.mpr hb
    have f1 : (gcdI t b : Rat) * (t.fdiv (gcdI t b) : Rat) = (t : Rat) := by rw [← Rat.intCast_mul, e1]
    have f2 : (gcdI t b : Rat) * (b.fdiv (gcdI t b) : Rat) = (b : Rat) := by rw [← Rat.intCast_mul, e2]
    show (t.fdiv (gcdI t b) : Rat) * (b.fdiv (gcdI t b) : Rat)⁻¹ = _
    have i1 : (b.fdiv (gcdI t b) : Rat) * (b.fdiv (gcdI t b) : Rat)⁻¹ = 1 := Rat.mul_inv_cancel _ (by grind)
    have i2 : (b : Rat) * (b : Rat)⁻¹ = 1 := Rat.mul_inv_cancel _ (by grind)
    generalize (gcdI t b : Rat) = G at *
    generalize (t.fdiv (gcdI t b) : Rat) = u at *
    generalize (b.fdiv (gcdI t b) : Rat)⁻¹ = j at *
    generalize (b.fdiv (gcdI t b) : Rat) = v at *
    generalize (b : Rat)⁻¹ = i at *
    rw [← f1]
    have : j = G * i := by
      have h1 : (G * v) * i = 1 := by rw [f2]; exact i2
      have h2 : v * (G * i) = 1 := by grind
      have h3 : j * (v * (G * i)) = j := by rw [h2, Rat.mul_one]
      grind
    rw [this]; grind
theorem midS_red {a b : Int × Int} (ha : Red a) (hb : Red b) : Red (midS a b) ∧ qv (midS a b) = (qv a + qv b) * (1 / 2) := by
  have a0 := Rat.intCast_pos.mpr ha.1
  have b0 := Rat.intCast_pos.mpr hb.1
  have ab : 0 < a.2 * b.2 := Int.mul_pos ha.1 hb.1
  obtain ⟨r1, r2⟩ := ratS_red (t := a.1 * b.2 + b.1 * a.2) ab
  have h1 : raddS a b = ratS (a.1 * b.2 + b.1 * a.2) (a.2 * b.2) := rfl
  rw [← h1] at r1 r2
  obtain ⟨s1, s2⟩ := ratS_red (t := (raddS a b).1 * 1) (b := (raddS a b).2 * 2) (by have := r1.1; omega)
  have h2 : midS a b = ratS ((raddS a b).1 * 1) ((raddS a b).2 * 2) := rfl
  rw [← h2] at s1 s2
  refine ⟨s1, ?_⟩
  rw [s2]
  have e1 := qv_mul r1.1
  rw [r2] at e1
  have c0 := Rat.intCast_pos.mpr r1.1
  have two : (((2 : Int)) : Rat) = 2 := rfl
  have one : (((1 : Int)) : Rat) = 1 := rfl
  simp only [Rat.intCast_mul, Rat.intCast_add, two, one] at e1 ⊢
  have i3 : ((raddS a b).2 : Rat) * 2 * (((raddS a b).2 : Rat) * 2)⁻¹ = 1 := Rat.mul_inv_cancel _ (by grind)
  have i4 : (a.2 : Rat) * (b.2 : Rat) * ((a.2 : Rat) * (b.2 : Rat))⁻¹ = 1 := Rat.mul_inv_cancel _ (by have := Rat.mul_pos a0 b0; grind)
  have ea := qv_mul ha.1
  have eb := qv_mul hb.1
  rw [← ea, ← eb] at e1
  generalize (((raddS a b).2 : Rat) * 2)⁻¹ = i at *
  generalize ((raddS a b).2 : Rat) = d at *
  generalize ((raddS a b).1 : Rat) = n at *
  generalize ((a.2 : Rat) * (b.2 : Rat))⁻¹ = j at *
  have e3 : (qv a * (a.2 : Rat) * (b.2 : Rat) + qv b * (b.2 : Rat) * (a.2 : Rat)) * j = qv a + qv b := by grind
  rw [e3] at e1
  rw [← e1]
  grind
noncomputable def Dy (j : Nat) (q : Int × Int) : Prop := Red q ∧ q.2 ∣ 2 ^ j
theorem dy_mid {j : Nat} {a b : Int × Int} (ha : Dy j a) (hb : Dy j b) : Dy (j + 1) (midS a b) := by
  obtain ⟨a1, u, hu⟩ := ha
  obtain ⟨b1, v, hv⟩ := hb
  obtain ⟨m1, m2⟩ := midS_red a1 b1
  refine ⟨m1, ?_⟩
  have ea := qv_mul a1.1
  have eb := qv_mul b1.1
  have em := qv_mul m1.1
  have h1 : (midS a b).1 * 2 ^ (j + 1) = (a.1 * u + b.1 * v) * (midS a b).2 := by
    apply Rat.intCast_inj.mp
    rw [Rat.intCast_mul, Rat.intCast_mul, Rat.intCast_add, Rat.intCast_mul, Rat.intCast_mul, Int.pow_succ, Rat.intCast_mul]
    have two : (((2 : Int)) : Rat) = 2 := rfl
    have h2 : (((2 ^ j : Int)) : Rat) = (a.2 : Rat) * (u : Rat) := by rw [← Rat.intCast_mul, ← hu]
    have h3 : (((2 ^ j : Int)) : Rat) = (b.2 : Rat) * (v : Rat) := by rw [← Rat.intCast_mul, ← hv]
    rw [two, ← em, m2, ← ea, ← eb]
    generalize (((2 ^ j : Int)) : Rat) = P at *
    grind
  have h2 : (midS a b).2 ∣ (midS a b).1 * 2 ^ (j + 1) := ⟨a.1 * u + b.1 * v, by rw [h1, Int.mul_comm]⟩
  exact dvd_cancel h2 m1.2
theorem dy_ok {j : Nat} {q : Int × Int} (h : Dy j q) {m : Nat} (hm : 1 ≤ m) (hb : Bd (2 ^ m) (qv q)) (hj : j + m + 1 ≤ 900) : Okq 1000 q := by
  obtain ⟨⟨h1, h2⟩, h3⟩ := h
  have le : q.2 ≤ 2 ^ j := Int.le_of_dvd (pow_pos' (by decide) j) h3
  have e := qv_mul h1
  have q0 := Rat.intCast_pos.mpr h1
  have hle : (q.2 : Rat) ≤ (((2 ^ j : Int)) : Rat) := Rat.intCast_le_intCast.mpr le
  have hb2 : Bd (((2 ^ j : Int)) : Rat) (q.2 : Rat) := by unfold Bd; grind
  have hb3 := hb.mul hb2
  rw [e] at hb3
  have p1 : ∀ m : Nat, (2 : Rat) ^ m = (((2 ^ m : Int)) : Rat) := by
    intro m
    induction m with
    | zero => rfl
    | succ m ih =>
      have two : (((2 : Int)) : Rat) = 2 := rfl
      rw [Rat.pow_succ, ih, Int.pow_succ, Rat.intCast_mul, two]
  rw [p1, ← Rat.intCast_mul, ← Int.pow_add] at hb3
  have k1 : q.1 ≤ 2 ^ (m + j) := Rat.intCast_le_intCast.mp hb3.2
  have k2 : -(2 ^ (m + j)) ≤ q.1 := by
    have := hb3.1
    rw [← Rat.intCast_neg] at this
    exact Rat.intCast_le_intCast.mp this
  have c : ((2 ^ (m + j) : Nat) : Int) = 2 ^ (m + j) := by simp
  have c2 : ((2 ^ j : Nat) : Int) = 2 ^ j := by simp
  have n1 : 2 ^ (m + j) < 2 ^ 1000 := Nat.pow_lt_pow_right (by decide) (by omega)
  have n2 : 2 ^ j < 2 ^ 1000 := Nat.pow_lt_pow_right (by decide) (by omega)
  refine ⟨h1, ?_, ?_⟩ <;> unfold Sm <;> omega
end Mine
end

section
open PySem PySem.W PyProof.Rows PySem.Calls
namespace Mine

structure Lf (S : List Fa) (h : List Int) : Prop where
  ins : ∀ fa ∈ S, FaIn fa
  nd : S.Nodup
  tr : Tr h
  ne : h ≠ []
  val : ∃ κ : Int, κ ≠ 0 ∧ ∀ x, ev h x = (κ : Rat) * ev (prodL (S.map facS)) x
theorem Lf.known {S : List Fa} {h : List Int} (L : Lf S h) : Known h ((rootsL S).map cut) := by
  obtain ⟨κ, h1, h2⟩ := L.val
  exact known_of L.ins L.nd L.tr L.ne h1 h2
noncomputable abbrev rc (S : List Fa) (x y : Rat) : Nat := cnt ((rootsL S).map cut) x y
structure GI (S : List Fa) (h : List Int) (m : Nat) (i : Iv) : Prop where
  dy : ∃ j, j ≤ 400 ∧ Dy j i.1 ∧ Dy j i.2
  b1 : Bd (2 ^ m) (qv i.1)
  b2 : Bd (2 ^ m) (qv i.2)
  lt : qv i.1 < qv i.2
  one : rc S (qv i.1) (qv i.2) = 1
  n1 : ev h (qv i.1) ≠ 0
  n2 : ev h (qv i.2) ≠ 0
theorem Dy.up {j k : Nat} {q : Int × Int} (h : Dy j q) (hk : j ≤ k) : Dy k q := ⟨h.1, Int.dvd_trans h.2 (by
  refine ⟨2 ^ (k - j), ?_⟩
  rw [← Int.pow_add]; congr 1; omega)⟩
theorem valSign_ne {h : List Int} {q : Int × Int} (hq : 0 < q.2) : valSign h q = 0 ↔ ev h (qv q) = 0 := by
  rw [valSign_ev hq]
  unfold sg
  constructor
  · intro e
    split at e
    · omega
    · split at e
      · omega
      · grind
  · intro e; rw [e]; simp
theorem split_ind {S : List Fa} {h : List Int} (L : Lf S h) {m : Nat} (hm : 1 ≤ m) (hm' : m ≤ 400) : ∀ (n j : Nat) (a b : Int × Int), n + j ≤ 400 → Dy j a → Dy j b → Bd (2 ^ m) (qv a) → Bd (2 ^ m) (qv b) → qv a < qv b →
    qv b - qv a ≤ 2 ^ n * (1 / 100) → ev h (qv a) ≠ 0 → ev h (qv b) ≠ 0 → ∀ (w found : List Iv), w.length + n ≤ 450 → found.length + rc S (qv a) (qv b) ≤ 450 →
    (∃ x, Red x ∧ Okq 1000 x ∧ ev h (qv x) = 0 ∧ SplitR h (sturm h) (w ++ [(a, b)]) found ([], some x)) ∨
    (∃ new : List Iv, new.length = rc S (qv a) (qv b) ∧ (∀ i ∈ new, GI S h m i ∧ qv a ≤ qv i.1 ∧ qv i.2 ≤ qv b) ∧ new.Pairwise (fun p q => qv p.2 ≤ qv q.1) ∧
      ∀ r, SplitR h (sturm h) w (found ++ new) r → SplitR h (sturm h) (w ++ [(a, b)]) found r) := by
  intro n
  induction n with
  | zero =>
    intro j a b hj da db ba bb hab hw na nb w found h1 h2
    have hc := count_fin L.known da.1.1 db.1.1 (Rat.le_of_lt hab)
    have hle : rc S (qv a) (qv b) ≤ 1 := cnt_one (rootsL_in L.ins) (rootsL_nodup L.nd) (Rat.le_of_lt hab) (by
      have : (2 : Rat) ^ 0 = 1 := Rat.pow_zero 2
      rw [this] at hw; grind)
    have oa := dy_ok da hm ba (by omega)
    have ob := dy_ok db hm bb (by omega)
    right
    by_cases h0 : rc S (qv a) (qv b) = 0
    · refine ⟨[], by rw [h0]; rfl, (fun i hi => nomatch hi), List.Pairwise.nil, fun r hr => ?_⟩
      rw [List.append_nil] at hr
      exact SplitR.zero oa ob (by omega) (by omega) (by
        show countRow (sturm h) (.fin a) (.fin b) < 1
        rw [hc]; unfold rc at h0; omega) hr
    · have h1' : rc S (qv a) (qv b) = 1 := by omega
      refine ⟨[(a, b)], by rw [h1']; rfl, fun i hi => ?_, List.pairwise_singleton .., fun r hr => ?_⟩
      · rw [List.mem_singleton.mp hi]
        exact ⟨⟨⟨j, by omega, da, db⟩, ba, bb, hab, h1', na, nb⟩, Rat.le_refl, Rat.le_refl⟩
      · exact SplitR.one oa ob (by omega) (by omega) (by
          show countRow (sturm h) (.fin a) (.fin b) = 1
          rw [hc]; unfold rc at h1'; omega) hr
  | succ n ih =>
    intro j a b hj da db ba bb hab hw na nb w found h1 h2
    have hc := count_fin L.known da.1.1 db.1.1 (Rat.le_of_lt hab)
    have oa := dy_ok da hm ba (by omega)
    have ob := dy_ok db hm bb (by omega)
    by_cases h0 : rc S (qv a) (qv b) = 0
    · right
      refine ⟨[], by rw [h0]; rfl, (fun i hi => nomatch hi), List.Pairwise.nil, fun r hr => ?_⟩
      rw [List.append_nil] at hr
      exact SplitR.zero oa ob (by omega) (by omega) (by
        show countRow (sturm h) (.fin a) (.fin b) < 1
        rw [hc]; unfold rc at h0; omega) hr
    by_cases h1' : rc S (qv a) (qv b) = 1
    · right
      refine ⟨[(a, b)], by rw [h1']; rfl, fun i hi => ?_, List.pairwise_singleton .., fun r hr => ?_⟩
      · rw [List.mem_singleton.mp hi]
        exact ⟨⟨⟨j, by omega, da, db⟩, ba, bb, hab, h1', na, nb⟩, Rat.le_refl, Rat.le_refl⟩
      · exact SplitR.one oa ob (by omega) (by omega) (by
          show countRow (sturm h) (.fin a) (.fin b) = 1
          rw [hc]; unfold rc at h1'; omega) hr
    have hgt : countRow (sturm h) (.fin a) (.fin b) > 1 := by rw [hc]; unfold rc at h0 h1'; omega
    have dm := dy_mid da db
    obtain ⟨rm, em⟩ := midS_red da.1 db.1
    have m1 : qv a < qv (midS a b) := by rw [em]; grind
    have m2 : qv (midS a b) < qv b := by rw [em]; grind
    have bm : Bd (2 ^ m) (qv (midS a b)) := by unfold Bd at *; grind
    have om := dy_ok dm hm bm (by omega)
    by_cases hz : ev h (qv (midS a b)) = 0
    · left
      exact ⟨midS a b, rm, om, hz, SplitR.root oa ob (by omega) (by omega) hgt ((valSign_ne rm.1).mpr hz)⟩
    · have hz' : valSign h (midS a b) ≠ 0 := fun e => hz ((valSign_ne rm.1).mp e)
      have hadd : rc S (qv a) (qv b) = rc S (qv a) (qv (midS a b)) + rc S (qv (midS a b)) (qv b) := cnt_add L.known.cuts (Rat.le_of_lt m1) (Rat.le_of_lt m2)
      have pw : (2 : Rat) ^ (n + 1) = 2 ^ n * 2 := Rat.pow_succ 2 n
      rw [pw] at hw
      have stepM : ∀ r, SplitR h (sturm h) ((w ++ [(midS a b, b)]) ++ [(a, midS a b)]) found r → SplitR h (sturm h) (w ++ [(a, b)]) found r := fun r hr => by
        refine SplitR.more oa ob (by omega) (by omega) hgt hz' ?_
        rwa [List.append_assoc] at hr
      rcases ih (j + 1) a (midS a b) (by omega) (da.up (by omega)) dm ba bm m1 (by rw [em]; grind) na hz (w ++ [(midS a b, b)]) found (by simp; omega) (by omega) with ⟨x, x1, x2, x3, x4⟩ | ⟨new1, c1, c2, c3, c4⟩
      · exact .inl ⟨x, x1, x2, x3, stepM _ x4⟩
      · rcases ih (j + 1) (midS a b) b (by omega) dm (db.up (by omega)) bm bb m2 (by rw [em]; grind) hz nb w (found ++ new1) (by omega) (by rw [List.length_append, c1]; omega) with ⟨x, x1, x2, x3, x4⟩ | ⟨new2, d1, d2, d3, d4⟩
        · exact .inl ⟨x, x1, x2, x3, stepM _ (c4 _ x4)⟩
        · right
          refine ⟨new1 ++ new2, by rw [List.length_append, c1, d1, hadd], fun i hi => ?_, ?_, fun r hr => stepM _ (c4 _ (d4 _ (by rwa [List.append_assoc])))⟩
          · rcases List.mem_append.mp hi with hi | hi
            · obtain ⟨e1, e2, e3⟩ := c2 i hi
              exact ⟨e1, e2, by grind⟩
            · obtain ⟨e1, e2, e3⟩ := d2 i hi
              exact ⟨e1, by grind, e3⟩
          · refine List.pairwise_append.mpr ⟨c3, d3, fun p hp q hq => ?_⟩
            have := (c2 p hp).2.2
            have := (d2 q hq).2.1
            grind
end Mine
end

section
local macro_rules | `(tactic| omega) => `(tactic| first | grind | omega (config := {}))
open PySem PySem.W PyProof.Rows PySem.Calls
namespace Mine

theorem tr_len {a b : List Int} (ha : Tr a) (h : ∀ i, a.getD i 0 = b.getD i 0) : a.length ≤ b.length := by
  by_cases h0 : a = []
  · subst h0; exact Nat.zero_le _
  · have h1 := ha h0
    unfold lead at h1
    rw [h] at h1
    by_cases h2 : a.length ≤ b.length
    · exact h2
    · exact absurd (getD_zero_of_le (l := b) (i := a.length - 1) (by omega)) h1
theorem tr_ext {a b : List Int} (ha : Tr a) (hb : Tr b) (h : ∀ i, a.getD i 0 = b.getD i 0) : a = b := by
  have l1 := tr_len ha h
  have l2 := tr_len hb (fun i => (h i).symm)
  refine List.ext_getElem (by omega) fun i h1 h2 => ?_
  have := h i
  rw [List.getD_eq_getElem?_getD, List.getD_eq_getElem?_getD, List.getElem?_eq_getElem h1, List.getElem?_eq_getElem h2] at this
  exact this
theorem tr_ev {a b : List Int} (ha : Tr a) (hb : Tr b) (h : ∀ x, ev a x = ev b x) : a = b := tr_ext ha hb (ev_inj h)
theorem padd_getD : ∀ (a b : List Int) (i : Nat), (padd a b).getD i 0 = a.getD i 0 + b.getD i 0
  | [], b, i => by simp [padd]
  | c :: a, [], i => by simp [padd]
  | c :: a, d :: b, 0 => by simp [padd]
  | c :: a, d :: b, i + 1 => by rw [padd, List.getD_cons_succ, List.getD_cons_succ, List.getD_cons_succ, padd_getD a b i]
theorem padd_len : ∀ (a b : List Int), (padd a b).length = max a.length b.length
  | [], b => by simp [padd]
  | c :: a, [] => by simp [padd]
  | c :: a, d :: b => by simp [padd, padd_len a b]
theorem pmul_lead : ∀ (a b : List Int), a ≠ [] → b ≠ [] → (pmul a b).length = a.length + b.length - 1 ∧ lead (pmul a b) = lead a * lead b
  | [], b, h, _ => absurd rfl h
  | [c], b, _, hb => by
    have hl := List.length_pos_iff.mpr hb
    have e : pmul [c] b = padd (b.map (c * ·)) [0] := rfl
    rw [e]
    have l1 : (padd (b.map (c * ·)) [0]).length = b.length := by rw [padd_len, List.length_map, List.length_singleton]; omega
    refine ⟨by rw [l1]; simp, ?_⟩
    unfold lead
    rw [l1, padd_getD, map_getD (c * ·) (by simp)]
    have : ([0] : List Int).getD (b.length - 1) 0 = 0 := by cases b.length - 1 <;> simp
    rw [this]; simp
  | c :: d :: a, b, _, hb => by
    obtain ⟨h1, h2⟩ := pmul_lead (d :: a) b (by simp) hb
    have hl := List.length_pos_iff.mpr hb
    have e : pmul (c :: d :: a) b = padd (b.map (c * ·)) (0 :: pmul (d :: a) b) := rfl
    rw [e]
    have l0 : (d :: a).length = a.length + 1 := rfl
    have l1 : (padd (b.map (c * ·)) (0 :: pmul (d :: a) b)).length = (pmul (d :: a) b).length + 1 := by rw [padd_len, List.length_map, List.length_cons]; omega
    refine ⟨by rw [l1, h1]; simp only [List.length_cons]; omega, ?_⟩
    have e2 : lead (c :: d :: a) = lead (d :: a) := rfl
    rw [e2, ← h2]
    unfold lead
    rw [l1, padd_getD, getD_zero_of_le (l := b.map (c * ·)) (by rw [List.length_map]; omega), Int.zero_add, Nat.add_sub_cancel]
    obtain ⟨n, hn⟩ : ∃ n, (pmul (d :: a) b).length = n + 1 := ⟨(pmul (d :: a) b).length - 1, by omega⟩
    rw [hn, List.getD_cons_succ, Nat.add_sub_cancel]
theorem prod_lead {a b q : List Int} (ha : Tr a) (hb : Tr b) (hq : Tr q) (hb0 : b ≠ []) (hq0 : q ≠ []) (h : ∀ x, ev a x = ev b x * ev q x) : a.length = b.length + q.length - 1 ∧ lead a = lead b * lead q := by
  obtain ⟨h1, h2⟩ := pmul_lead b q hb0 hq0
  have ht : Tr (pmul b q) := fun _ => by rw [h2]; exact Int.mul_ne_zero (hb hb0) (hq hq0)
  have e : a = pmul b q := tr_ev ha ht (fun x => by rw [h, (ev_pmul b q x).1])
  rw [e]; exact ⟨h1, h2⟩
theorem tr_nil {a : List Int} (ha : Tr a) (h : ∀ x, ev a x = 0) : a = [] := tr_ev ha (fun h => absurd rfl h) (fun x => by rw [h]; rfl)
theorem ev_monom (c : Int) (m : Nat) (x : Rat) : ev (zraise [c] m) x = (c : Rat) * x ^ m := by
  rw [ev_zraise]; simp only [ev]; grind
theorem exGo_of {b : List Int} (hb : Tr b) (hb0 : b ≠ []) : ∀ (n : Nat) (rest found q : List Int), Tr rest → Tr q → q.length ≤ n → (∀ x, ev rest x = ev b x * ev q x) → (∀ i, i < q.length → found.getD i 0 = 0) → q.length ≤ found.length →
    ∃ found', exGo b n rest found = some ([], found') ∧ ∀ x, ev found' x = ev found x + ev q x
  | 0, rest, found, q, hr, hq, hn, h, h0, hl => by
    have hq0 : q = [] := List.length_eq_zero_iff.mp (by omega)
    subst hq0
    have : rest = [] := tr_nil hr (fun x => by rw [h]; simp [ev])
    subst this
    exact ⟨found, rfl, fun x => by simp [ev]; grind⟩
  | n + 1, rest, found, q, hr, hq, hn, h, h0, hl => by
    have bl := List.length_pos_iff.mpr hb0
    by_cases hq0 : q = []
    · subst hq0
      have : rest = [] := tr_nil hr (fun x => by rw [h]; simp [ev])
      subst this
      refine ⟨found, ?_, fun x => by simp [ev]; grind⟩
      rw [exGo, if_neg (by simp; omega)]
    · obtain ⟨p1, p2⟩ := prod_lead hr hb hq hb0 hq0 h
      have ql := List.length_pos_iff.mpr hq0
      have hpow : rest.length - b.length = q.length - 1 := by omega
      have hfm : (lead rest).fmod (lead b) = 0 := by rw [p2]; exact Int.mul_fmod_right ..
      have hfd : (lead rest).fdiv (lead b) = lead q := by rw [p2]; exact Int.mul_fdiv_cancel_left _ (hb hb0)
      rw [exGo, if_pos (by omega), if_pos hfm, hfd, hpow]
      have hql : (zsub q (zraise [lead q] (q.length - 1))).length ≤ q.length - 1 := by
        unfold zsub
        refine zadd_len_lt (by omega) ?_ ?_
        · unfold zneg; rw [List.length_map]; unfold zraise; rw [if_neg (by simp), List.length_append, List.length_replicate]; simp
        · rw [zneg_getD, zraise_getD, if_neg (by omega), Nat.sub_self]; unfold lead; simp; omega
      obtain ⟨f', e1, e2⟩ := exGo_of hb hb0 n (zsub rest (zraise (zscale b (lead q)) (q.length - 1))) (found.set (q.length - 1) (lead q)) (zsub q (zraise [lead q] (q.length - 1))) (tr_trim _) (tr_trim _) (by omega) (fun x => by
          rw [ev_zsub, ev_zsub, ev_zraise, ev_zscale, ev_monom, h]; grind) (fun i hi => by
          rw [List.getD_eq_getElem?_getD, List.getElem?_set]
          rw [if_neg (by omega), ← List.getD_eq_getElem?_getD]; exact h0 i (by omega)) (by rw [List.length_set]; omega)
      refine ⟨f', e1, fun x => ?_⟩
      have hs := ev_set found (q.length - 1) (lead q) x (by omega)
      rw [h0 _ (by omega), Int.zero_add] at hs
      rw [e2, hs, ev_zsub, ev_monom]; grind
theorem zexact_of {a b q : List Int} (ha : Tr a) (hb : Tr b) (hq : Tr q) (hb0 : b ≠ []) (h : ∀ x, ev a x = ev b x * ev q x) : zexact a b = some q := by
  have bl := List.length_pos_iff.mpr hb0
  have hn : q.length ≤ psMany a b := by
    by_cases hq0 : q = []
    · subst hq0; exact Nat.zero_le _
    · have := (prod_lead ha hb hq hb0 hq0 h).1
      have := List.length_pos_iff.mpr hq0
      unfold psMany; omega
  obtain ⟨f', e1, e2⟩ := exGo_of hb hb0 (psMany a b) a (List.replicate (psMany a b) 0) q ha hq hn h (fun i hi => by
    rw [List.getD_eq_getElem?_getD, List.getElem?_replicate]; split <;> rfl) (by rw [List.length_replicate]; exact hn)
  unfold zexact
  rw [e1]
  simp only [if_true]
  congr 1
  refine tr_ext (tr_trim _) hq fun i => ?_
  rw [trim_getD]
  exact ev_inj (fun x => by rw [e2, ev_replicate]; grind) i
end Mine
end

section
local macro_rules | `(tactic| omega) => `(tactic| first | grind | omega (config := {}))
open PySem PySem.W PyProof.Rows PySem.Calls
namespace Mine

noncomputable def norm1 (p : List Int) : Nat := (p.map Int.natAbs).sum
theorem norm1_cons (c : Int) (p : List Int) : norm1 (c :: p) = c.natAbs + norm1 p := by simp [norm1]
theorem norm1_padd : ∀ a b : List Int, norm1 (padd a b) ≤ norm1 a + norm1 b
  | [], b => by simp [padd, norm1]
  | c :: a, [] => by simp [padd]
  | c :: a, d :: b => by
    have := norm1_padd a b
    have := Int.natAbs_add_le c d
    rw [padd, norm1_cons, norm1_cons, norm1_cons]; omega
theorem norm1_map (c : Int) : ∀ a : List Int, norm1 (a.map (c * ·)) = c.natAbs * norm1 a
  | [] => by simp [norm1]
  | d :: a => by rw [List.map_cons, norm1_cons, norm1_cons, norm1_map c a, Int.natAbs_mul, Nat.mul_add]
theorem norm1_pmul : ∀ a b : List Int, norm1 (pmul a b) ≤ norm1 a * norm1 b
  | [], b => by simp [pmul, norm1]
  | c :: a, b => by
    have h1 := norm1_padd (b.map (c * ·)) (0 :: pmul a b)
    have h2 := norm1_pmul a b
    rw [norm1_map, norm1_cons] at h1
    rw [pmul, norm1_cons, Nat.add_mul]
    simp only [Int.natAbs_zero, Nat.zero_add] at h1
    omega
theorem norm1_mem {p : List Int} : ∀ c ∈ p, c.natAbs ≤ norm1 p := by
  induction p with
  | nil => intro c h; cases h
  | cons d p ih =>
    intro c h
    rw [norm1_cons]
    rcases List.mem_cons.mp h with rfl | h
    · omega
    · have := ih c h; omega
theorem fac_norm {fa : Fa} (h : FaIn fa) : norm1 (facS fa) ≤ 8 ∧ 2 ≤ (facS fa).length ∧ (facS fa).length ≤ 3 ∧ Tr (facS fa) := by
  cases fa with
  | lin q =>
    have key : ∀ q ∈ LQ, norm1 (facS (.lin q)) ≤ 8 := by decide +kernel
    exact ⟨key q h, by simp [facS], by simp [facS], fun _ => by have := (lq_pos h).1; simp [facS, lead]; omega⟩
  | sq k =>
    have key : ∀ k ∈ LK, norm1 (facS (.sq k)) ≤ 8 := by decide +kernel
    exact ⟨key k h, by simp [facS], by simp [facS], fun _ => by simp [facS, lead]⟩
  | no c d =>
    obtain ⟨h1, h2, h3, h4⟩ := h
    refine ⟨?_, by simp [facS], by simp [facS], fun _ => by simp [facS, lead]⟩
    simp only [facS, norm1_cons]
    simp [norm1]; omega
theorem prodL_facts : ∀ {S : List Fa}, (∀ fa ∈ S, FaIn fa) → norm1 (prodL (S.map facS)) ≤ 8 ^ S.length ∧ prodL (S.map facS) ≠ [] ∧ Tr (prodL (S.map facS)) ∧ (prodL (S.map facS)).length ≤ 1 + 2 * S.length ∧ 1 + S.length ≤ (prodL (S.map facS)).length
  | [], _ => ⟨by decide, by simp [prodL], fun _ => by simp [prodL, lead], by simp [prodL], by simp [prodL]⟩
  | fa :: S, h => by
    obtain ⟨h1, h2, h3, h4, h5⟩ := prodL_facts (S := S) (fun fb hb => h fb (.tail _ hb))
    obtain ⟨f1, f2, f3, f4⟩ := fac_norm (h fa (.head _))
    have fne : facS fa ≠ [] := fun e => by rw [e] at f2; simp at f2
    obtain ⟨p1, p2⟩ := pmul_lead (facS fa) (prodL (S.map facS)) fne h2
    have e : prodL ((fa :: S).map facS) = pmul (facS fa) (prodL (S.map facS)) := rfl
    have hl := List.length_pos_iff.mpr h2
    rw [e]
    refine ⟨?_, fun e0 => by rw [e0] at p1; simp at p1; omega, fun _ => by rw [p2]; exact Int.mul_ne_zero (f4 fne) (h3 h2), by rw [p1, List.length_cons]; omega, by rw [p1, List.length_cons]; omega⟩
    have := norm1_pmul (facS fa) (prodL (S.map facS))
    have h6 := Nat.mul_le_mul f1 h1
    rw [List.length_cons, Nat.pow_succ]
    omega
structure Lf3 (S : List Fa) (h : List Int) : Prop where
  ins : ∀ fa ∈ S, FaIn fa
  nd : S.Nodup
  len : S.length ≤ 3
  tr : Tr h
  ne : h ≠ []
  val : ∃ κ : Int, κ ≠ 0 ∧ κ.natAbs ≤ 3 ∧ ∀ x, ev h x = (κ : Rat) * ev (prodL (S.map facS)) x
theorem Lf3.lf {S : List Fa} {h : List Int} (L : Lf3 S h) : Lf S h := ⟨L.ins, L.nd, L.tr, L.ne, let ⟨κ, h1, _, h3⟩ := L.val; ⟨κ, h1, h3⟩⟩
theorem Lf3.eq {S : List Fa} {h : List Int} (L : Lf3 S h) : ∃ κ : Int, κ ≠ 0 ∧ κ.natAbs ≤ 3 ∧ h = (prodL (S.map facS)).map (κ * ·) := by
  obtain ⟨κ, h1, h2, h3⟩ := L.val
  obtain ⟨p1, p2, p3, p4, p5⟩ := prodL_facts L.ins
  exact ⟨κ, h1, h2, tr_ev L.tr (tr_map (by simp) p3 (fun c _ hc => Int.mul_ne_zero h1 hc)) (fun x => by rw [h3, (ev_map κ _ x).1])⟩
theorem Lf3.size {S : List Fa} {h : List Int} (L : Lf3 S h) : h.length ≤ 7 ∧ 1 + S.length ≤ h.length ∧ SmL 11 h := by
  obtain ⟨κ, h1, h2, h3⟩ := L.eq
  obtain ⟨p1, p2, p3, p4, p5⟩ := prodL_facts L.ins
  have hl := L.len
  have hl2 : h.length = (prodL (S.map facS)).length := by rw [h3, List.length_map]
  refine ⟨by omega, by omega, fun c hc => ?_⟩
  have n1 := norm1_mem c hc
  rw [h3, norm1_map] at n1
  have n2 : 8 ^ S.length ≤ 8 ^ 3 := Nat.pow_le_pow_right (by decide) hl
  have n3 := Nat.mul_le_mul h2 (Nat.le_trans p1 n2)
  unfold Sm
  have : 3 * 8 ^ 3 < 2 ^ 11 := by decide
  omega
theorem foldl_max3 (l : List Int) : ∀ m : Int, m ≤ l.foldl max m ∧ (∀ c ∈ l, c ≤ l.foldl max m) ∧ (∀ K, m ≤ K → (∀ c ∈ l, c ≤ K) → l.foldl max m ≤ K) := by
  induction l with
  | nil => intro m; exact ⟨Int.le_refl _, fun c h => (nomatch h), fun K h _ => h⟩
  | cons d l ih =>
    intro m
    obtain ⟨h1, h2, h3⟩ := ih (max m d)
    rw [List.foldl_cons]
    refine ⟨by omega, fun c hc => ?_, fun K hm hK => h3 K (by have := hK d (.head _); omega) fun c hc => hK c (.tail _ hc)⟩
    rcases List.mem_cons.mp hc with rfl | hc
    · omega
    · exact h2 c hc
theorem lead_mem {p : List Int} (h : p ≠ []) : lead p ∈ p := by
  have := List.length_pos_iff.mpr h
  unfold lead
  rw [List.getD_eq_getElem?_getD, List.getElem?_eq_getElem (by omega)]
  exact List.getElem_mem _
theorem rootBound_facts {p : List Int} {n : Nat} (h : p ≠ []) (ht : Tr p) (hs : SmL n p) : 3 ≤ rootBound p ∧ rootBound p ≤ 2 + 2 ^ n ∧ ∀ x : Rat, ((rootBound p : Int) : Rat) ≤ x ∨ x ≤ -((rootBound p : Int) : Rat) → ev p x ≠ 0 := by
  have hl := ht h
  obtain ⟨m1, m2, m3⟩ := foldl_max3 (p.map fun c => (c.natAbs : Int)) 0
  have mc : ∀ c ∈ p, (c.natAbs : Int) ≤ (p.map fun c => (c.natAbs : Int)).foldl max 0 := fun c hc => m2 _ (List.mem_map.mpr ⟨c, hc, rfl⟩)
  have mk : (p.map fun c => (c.natAbs : Int)).foldl max 0 ≤ 2 ^ n := m3 _ (by have := pow_pos' (l := 2) (by decide) n; omega) fun c hc => by
    obtain ⟨d, hd, rfl⟩ := List.mem_map.mp hc
    have := hs d hd
    unfold Sm at this
    have e : ((2 ^ n : Nat) : Int) = 2 ^ n := by simp
    omega
  have ml := mc _ (lead_mem h)
  have eB : rootBound p = 2 + ((p.map fun c => (c.natAbs : Int)).foldl max 0).fdiv (lead p).natAbs := rfl
  generalize (p.map fun c => (c.natAbs : Int)).foldl max 0 = M at *
  have L1 : (1 : Int) ≤ ((lead p).natAbs : Int) := by omega
  generalize hL : ((lead p).natAbs : Int) = L at *
  have q1 := Int.mul_fdiv_add_fmod M L
  have q2 := Int.fmod_nonneg_of_pos M (show 0 < L by omega)
  have q3 := Int.fmod_lt_of_pos M (show 0 < L by omega)
  generalize M.fmod L = r at *
  rw [eB]
  generalize M.fdiv L = d at *
  have d1 : 1 ≤ d := by
    by_cases h : 1 ≤ d
    · exact h
    · have := Int.mul_le_mul_of_nonneg_left (show d ≤ 0 by omega) (show 0 ≤ L by omega)
      omega
  have d2 : d ≤ M := by
    have := Int.mul_le_mul_of_nonneg_right L1 (show 0 ≤ d by omega)
    omega
  refine ⟨by omega, by omega, fun x hx => ?_⟩
  have LM : L + M ≤ L * (2 + d) := by rw [Int.mul_add]; omega
  have LM' : (L : Rat) + (M : Rat) ≤ (L : Rat) * ((2 + d : Int) : Rat) := by
    rw [← Rat.intCast_add, ← Rat.intCast_mul]; exact Rat.intCast_le_intCast.mpr LM
  have L0 : (1 : Rat) ≤ (L : Rat) := Rat.intCast_le_intCast (a := 1) |>.mpr L1
  have B3 : (3 : Rat) ≤ ((2 + d : Int) : Rat) := Rat.intCast_le_intCast (a := 3) |>.mpr (by omega)
  have big := cauchy (L := (L : Rat)) (M := (M : Rat)) (x := x) (by grind) (by grind) (by
    rcases hx with hx | hx
    · left
      have := Rat.mul_le_mul_of_nonneg_left hx (show 0 ≤ (L : Rat) by grind)
      grind
    · right
      have := Rat.mul_le_mul_of_nonneg_left (show ((2 + d : Int) : Rat) ≤ -x by grind) (show 0 ≤ (L : Rat) by grind)
      grind) p h (fun c hc => by
      have h1 := mc c hc
      have a : c ≤ M := by omega
      have b : -M ≤ c := by omega
      have b' := Rat.intCast_le_intCast.mpr b
      rw [Rat.intCast_neg] at b'
      exact ⟨b', Rat.intCast_le_intCast.mpr a⟩) (by
      by_cases hp : 0 < lead p
      · left; exact Rat.intCast_le_intCast.mpr (by omega)
      · right; rw [← Rat.intCast_neg]; exact Rat.intCast_le_intCast.mpr (by omega))
  intro e
  rw [e] at big
  unfold Big at big; grind
end Mine
end

section
open PySem PySem.W PyProof.Rows PySem.Calls
namespace Mine

theorem qv_one (B : Int) : qv (B, 1) = (B : Rat) := by
  have := qv_mul (q := (B, 1)) (show (0 : Int) < 1 by decide)
  have one : (((1 : Int)) : Rat) = 1 := rfl
  simp only [one] at this
  grind
theorem red_one (B : Int) : Red (B, 1) := ⟨by show (0 : Int) < 1; decide, by show Int.gcd B 1 = 1; simp⟩
theorem ev_prodL_zero {L : List (List Int)} {f : List Int} (h : f ∈ L) {x : Rat} (hx : ev f x = 0) : ev (prodL L) x = 0 := by
  induction L with
  | nil => cases h
  | cons g L ih =>
    show ev (pmul g (prodL L)) x = 0
    rw [(ev_pmul g (prodL L) x).1]
    rcases List.mem_cons.mp h with rfl | h
    · rw [hx]; grind
    · rw [ih h]; grind
theorem ev_lin {q : Int × Int} (h : 0 < q.2) (x : Rat) : ev [-q.1, q.2] x = (x - qv q) * (q.2 : Rat) := by
  have e := qv_mul h
  simp only [ev, Rat.intCast_neg]; grind
theorem ev_lin_zero {q : Int × Int} (h : 0 < q.2) : ev [-q.1, q.2] (qv q) = 0 := by rw [ev_lin h]; grind
theorem cut_bound {S : List Fa} {h : List Int} (L : Lf S h) {B : Rat} (hB : 3 ≤ B) (hn : ∀ x : Rat, B ≤ x ∨ x ≤ -B → ev h x ≠ 0) : ∀ r ∈ rootsL S, cut r (-B) = -1 ∧ cut r B = 1 := by
  intro r hr
  have hin := rootsL_in L.ins r hr
  cases r with
  | rat q =>
    have hp := lq_pos hin
    obtain ⟨fa, h1, h2⟩ := List.mem_flatMap.mp hr
    have hfa : facS fa = [-q.1, q.2] := by
      cases fa with
      | lin p => simp only [rootsS, List.mem_singleton, Rt.rat.injEq] at h2; rw [h2]; rfl
      | sq k => simp [rootsS] at h2
      | no c d => simp [rootsS] at h2
    have hz : ev h (qv q) = 0 := by
      obtain ⟨κ, _, hv⟩ := L.val
      rw [hv, ev_prodL_zero (List.mem_map.mpr ⟨fa, h1, rfl⟩) (by rw [hfa]; exact ev_lin_zero hp.1)]; grind
    have h3 : ¬ (B ≤ qv q ∨ qv q ≤ -B) := fun e => hn _ e hz
    constructor
    · show sg (-B - qv q) = -1; unfold sg; rw [if_neg (by grind), if_pos (by grind)]
    · show sg (B - qv q) = 1; unfold sg; rw [if_pos (by grind)]
  | root s k =>
    obtain ⟨hs, hk⟩ := hin
    have k7 : (k : Rat) ≤ 7 := Rat.intCast_le_intCast (b := 7) |>.mpr (lk_range hk).2
    have := sq_mono (x := 3) (y := B) (by grind) hB
    rcases hs with rfl | rfl
    · rw [cut_pos, cut_pos, if_neg (by grind), if_pos (by grind)]; exact ⟨rfl, rfl⟩
    · rw [cut_neg, cut_neg, if_neg (by grind), if_pos (by grind)]; exact ⟨rfl, rfl⟩
theorem pow_cast (m : Nat) : (2 : Rat) ^ m = (((2 ^ m : Int)) : Rat) := by
  induction m with
  | zero => rfl
  | succ m ih =>
    have two : (((2 : Int)) : Rat) = 2 := rfl
    rw [Rat.pow_succ, ih, Int.pow_succ, Rat.intCast_mul, two]
theorem split_start {S : List Fa} {h : List Int} (L : Lf3 S h) : (∃ x, Red x ∧ Okq 1000 x ∧ ev h (qv x) = 0 ∧ SplitR h (sturm h) [startIv h] [] ([], some x)) ∨
    (∃ new : List Iv, new.length = (rootsL S).length ∧ (∀ i ∈ new, GI S h 12 i) ∧ new.Pairwise (fun p q => qv p.2 ≤ qv q.1) ∧ SplitR h (sturm h) [startIv h] [] (new, none)) := by
  obtain ⟨s1, s2, s3⟩ := L.size
  obtain ⟨b1, b2, b3⟩ := rootBound_facts L.ne L.tr s3
  have B3 : (3 : Rat) ≤ ((rootBound h : Int) : Rat) := Rat.intCast_le_intCast (a := 3) |>.mpr b1
  have Bm : ((rootBound h : Int) : Rat) ≤ 2050 := Rat.intCast_le_intCast (b := 2050) |>.mpr (by omega)
  have hc := cut_bound L.lf B3 b3
  have e1 : qv (-rootBound h, 1) = -((rootBound h : Int) : Rat) := by rw [qv_one, Rat.intCast_neg]
  have e2 : qv (rootBound h, 1) = ((rootBound h : Int) : Rat) := qv_one _
  have hall : rc S (qv (-rootBound h, 1)) (qv (rootBound h, 1)) = (rootsL S).length := cnt_all fun r hr => by
    rw [e1, e2, (hc r hr).1, (hc r hr).2]; exact ⟨rfl, by decide⟩
  have p12 : (2 : Rat) ^ 12 = 4096 := by rw [pow_cast]; rfl
  have p20 : (2 : Rat) ^ 20 = 1048576 := by rw [pow_cast]; rfl
  have hlen : (rootsL S).length ≤ 6 := by
    have key : ∀ T : List Fa, (rootsL T).length ≤ 2 * T.length := by
      intro T
      induction T with
      | nil => simp [rootsL]
      | cons fa T ih =>
        unfold rootsL at *
        rw [List.flatMap_cons, List.length_append, List.length_cons]
        have : (rootsS fa).length ≤ 2 := by cases fa <;> simp [rootsS]
        omega
    have := key S
    have := L.len
    omega
  rcases split_ind L.lf (m := 12) (by decide) (by decide) 20 0 (-rootBound h, 1) (rootBound h, 1) (by decide) ⟨red_one _, Int.dvd_refl _⟩ ⟨red_one _, Int.dvd_refl _⟩
      (by rw [e1, p12]; unfold Bd; grind) (by rw [e2, p12]; unfold Bd; grind) (by rw [e1, e2]; grind) (by rw [e1, e2, p20]; grind) (by rw [e1]; exact b3 _ (.inr Rat.le_refl)) (by rw [e2]; exact b3 _ (.inl Rat.le_refl)) [] [] (by decide) (by rw [hall]; simp; omega) with ⟨x, x1, x2, x3, x4⟩ | ⟨new, n1, n2, n3, n4⟩
  · exact .inl ⟨x, x1, x2, x3, x4⟩
  · exact .inr ⟨new, by rw [n1, hall], fun i hi => (n2 i hi).1, n3, n4 _ (SplitR.done (by rw [List.nil_append, n1, hall]; omega))⟩
theorem left_less {S : List Fa} {h : List Int} (L : Lf3 S h) {q : Int × Int} (hq : Red q) (hz : ev h (qv q) = 0) : ∃ S' h', S.Perm (.lin q :: S') ∧ Lf3 S' h' ∧ zexact h [-q.1, q.2] = some h' := by
  obtain ⟨κ, k1, k2, k3⟩ := L.val
  have hpz : prodC ((rootsL S).map cut) (qv q) = 0 := by
    rw [← prod_sign L.ins]
    have h1 := k3 (qv q)
    rw [hz] at h1
    have hk : (κ : Rat) ≠ 0 := fun e => k1 (Rat.intCast_inj.mp e)
    have : ev (prodL (S.map facS)) (qv q) = 0 := by
      rcases Rat.mul_eq_zero.mp h1.symm with h2 | h2
      · exact absurd h2 hk
      · exact h2
    rw [this]; simp [sg]
  have hex : ∃ r ∈ rootsL S, cut r (qv q) = 0 := by
    have key : ∀ R : List Rt, prodC (R.map cut) (qv q) = 0 → ∃ r ∈ R, cut r (qv q) = 0 := by
      intro R
      induction R with
      | nil => intro e; exact absurd e (show (1 : Int) ≠ 0 by decide)
      | cons r R ih =>
        intro e
        rw [List.map_cons, prodC_cons] at e
        rcases Int.mul_eq_zero.mp e with h1 | h1
        · exact ⟨r, .head _, h1⟩
        · obtain ⟨s, a, b⟩ := ih h1; exact ⟨s, .tail _ a, b⟩
    exact key _ hpz
  obtain ⟨r, r1, r2⟩ := hex
  have hin := rootsL_in L.ins r r1
  have hmem : Fa.lin q ∈ S := by
    cases r with
    | rat p =>
      have h3 : qv q = qv p := by
        have h2 : sg (qv q - qv p) = 0 := r2
        unfold sg at h2
        split at h2
        · omega
        · split at h2
          · omega
          · grind
      have h4 := red_eq hq (lq_red hin) h3
      obtain ⟨fa, f1, f2⟩ := List.mem_flatMap.mp r1
      cases fa with
      | lin p' => simp only [rootsS, List.mem_singleton, Rt.rat.injEq] at f2; rw [h4, f2]; exact f1
      | sq k => simp [rootsS] at f2
      | no c d => simp [rootsS] at f2
    | root s k =>
      exfalso
      obtain ⟨hs, hk⟩ := hin
      rcases hs with rfl | rfl
      · rw [cut_pos] at r2; split at r2 <;> omega
      · rw [cut_neg] at r2; split at r2 <;> omega
  obtain ⟨A, C, rfl⟩ := List.append_of_mem hmem
  have hperm : (A ++ Fa.lin q :: C).Perm (Fa.lin q :: (A ++ C)) := List.perm_middle
  have hnd := hperm.nodup_iff.mp L.nd
  have hins : ∀ fa ∈ A ++ C, FaIn fa := fun fa hfa => L.ins fa (hperm.mem_iff.mpr (.tail _ hfa))
  obtain ⟨p1, p2, p3, p4, p5⟩ := prodL_facts hins
  have hev : ∀ (A C : List Fa) (x : Rat), ev (prodL ((A ++ Fa.lin q :: C).map facS)) x = ev [-q.1, q.2] x * ev (prodL ((A ++ C).map facS)) x := by
    intro A C x
    induction A with
    | nil => exact (ev_pmul (facS (.lin q)) (prodL (C.map facS)) x).1
    | cons fa A ih =>
      have e1 : prodL ((fa :: A ++ Fa.lin q :: C).map facS) = pmul (facS fa) (prodL ((A ++ Fa.lin q :: C).map facS)) := rfl
      have e2 : prodL ((fa :: A ++ C).map facS) = pmul (facS fa) (prodL ((A ++ C).map facS)) := rfl
      rw [e1, e2, (ev_pmul _ _ x).1, (ev_pmul _ _ x).1, ih]; grind
  have htr : Tr ((prodL ((A ++ C).map facS)).map (κ * ·)) := tr_map (by simp) p3 (fun c _ hc => Int.mul_ne_zero k1 hc)
  have hlen := L.len
  refine ⟨A ++ C, (prodL ((A ++ C).map facS)).map (κ * ·), hperm, ⟨hins, (List.nodup_cons.mp hnd).2, ?_, htr, by simpa using p2, κ, k1, k2, fun x => (ev_map κ _ x).1⟩, ?_⟩
  · rw [List.length_append, List.length_cons] at hlen; rw [List.length_append]; omega
  · refine zexact_of L.tr (fun _ => ?_) htr (by simp) fun x => ?_
    · have := hq.1
      simp [lead]; omega
    · rw [k3, hev, (ev_map κ _ x).1]; grind
end Mine
end

section
open PySem PySem.W PyProof.Rows PySem.Calls
namespace Mine

theorem iso_ind (SZ : ∀ S h, Lf3 S h → RowOk h) : ∀ (n : Nat) (S : List Fa) (h : List Int), S.length ≤ n → Lf3 S h → ∀ xs : List (Int × Int), xs.length + S.length ≤ 50 →
    ∃ (r : List Iv × Option (Int × Int)) (left : List Int) (ys : List (Int × Int)) (found : List Iv) (S' : List Fa), SpAt h r ∧ IsoR h xs r (left, xs ++ ys, found) ∧ Lf3 S' left ∧ S.Perm (ys.map Fa.lin ++ S') ∧
      (∀ y ∈ ys, Red y ∧ Okq 1000 y) ∧ found.length = (rootsL S').length ∧ (∀ i ∈ found, GI S' left 12 i) ∧ found.Pairwise (fun p q => qv p.2 ≤ qv q.1) := by
  intro n
  induction n with
  | zero =>
    intro S h hn L xs hx
    have hS : S = [] := List.length_eq_zero_iff.mp (by omega)
    subst hS
    obtain ⟨κ, k1, k2, k3⟩ := L.eq
    have hl : h.length = 1 := by rw [k3]; simp [prodL]
    refine ⟨([], none), h, [], [], [], ⟨by omega, fun e => by omega, fun _ => rfl⟩, ?_, L, List.Perm.refl _, fun y hy => (nomatch hy), rfl, fun i hi => (nomatch hi), List.Pairwise.nil⟩
    rw [List.append_nil]; exact IsoR.stop
  | succ n ih =>
    intro S h hn L xs hx
    by_cases hS : S = []
    · subst hS
      exact ih [] h (Nat.zero_le _) L xs hx
    have hlS := List.length_pos_iff.mpr hS
    obtain ⟨s1, s2, s3⟩ := L.size
    rcases split_start L with ⟨x, x1, x2, x3, x4⟩ | ⟨new, n1, n2, n3, n4⟩
    · obtain ⟨S1, h1, p1, L1, z1⟩ := left_less L x1 x3
      have hl1 : S.length = S1.length + 1 := by rw [p1.length_eq]; rfl
      obtain ⟨r, left, ys, found, S', a1, a2, a3, a4, a5, a6, a7, a8⟩ := ih S1 h1 (by omega) L1 (xs ++ [x]) (by rw [List.length_append, List.length_singleton]; omega)
      refine ⟨([], some x), left, x :: ys, found, S', ⟨by omega, fun _ => ⟨SZ S h L, L.tr L.ne, x4⟩, fun e => by omega⟩, ?_, a3, ?_, ?_, a6, a7, a8⟩
      · have e : xs ++ x :: ys = (xs ++ [x]) ++ ys := by simp
        rw [e]
        exact IsoR.next (by omega) (s3.mono (by decide)) (by omega) x2 z1 a1 a2
      · exact p1.trans (List.Perm.cons _ a4)
      · intro y hy
        rcases List.mem_cons.mp hy with rfl | hy
        · exact ⟨x1, x2⟩
        · exact a5 y hy
    · refine ⟨(new, none), h, [], new, S, ⟨by omega, fun _ => ⟨SZ S h L, L.tr L.ne, n4⟩, fun e => by omega⟩, ?_, L, List.Perm.refl _, fun y hy => (nomatch hy), n1, n2, n3⟩
      rw [List.append_nil]; exact IsoR.stop
end Mine
end

section
open PySem PySem.W PyProof.Rows PySem.Calls
namespace Mine

theorem rcmp_le {p q : Int × Int} (hp : 0 < p.2) (hq : 0 < q.2) : rcmp p q ≤ 0 ↔ qv p ≤ qv q := by
  have h := qv_lt hq hp
  have e : rcmp p q = sgn (p.1 * q.2 - q.1 * p.2) := rfl
  rw [e, sgn_eq]
  constructor
  · intro h1
    have : ¬ qv q < qv p := fun h2 => by
      have := h.mp h2
      rw [if_pos (by omega)] at h1; omega
    grind
  · intro h1
    have : ¬ q.1 * p.2 < p.1 * q.2 := fun h2 => by have := h.mpr h2; grind
    rw [if_neg (by omega)]; split <;> omega
theorem inside_iff {x : Int × Int} {i : Iv} (hx : 0 < x.2) (h1 : 0 < i.1.2) (h2 : 0 < i.2.2) : inside x i = true ↔ qv i.1 ≤ qv x ∧ qv x ≤ qv i.2 := by
  unfold inside
  rw [Bool.and_eq_true, decide_eq_true_eq, decide_eq_true_eq, rcmp_le h1 hx, rcmp_le hx h2]
theorem ev_zero_iff {S : List Fa} {h : List Int} (L : Lf S h) {x : Rat} : ev h x = 0 ↔ prodC ((rootsL S).map cut) x = 0 := by
  obtain ⟨κ, k1, k3⟩ := L.val
  have hk : (κ : Rat) ≠ 0 := fun e => k1 (Rat.intCast_inj.mp e)
  have sz : ∀ v : Rat, sg v = 0 ↔ v = 0 := fun v => by
    unfold sg
    constructor
    · intro e
      split at e
      · omega
      · split at e
        · omega
        · grind
    · intro e; rw [e]; simp
  rw [← prod_sign L.ins, sz, k3]
  constructor
  · intro e
    rcases Rat.mul_eq_zero.mp e with h2 | h2
    · exact absurd h2 hk
    · exact h2
  · intro e; rw [e]; grind
theorem cut_ne {S : List Fa} {h : List Int} (L : Lf S h) {x : Rat} (hx : ev h x ≠ 0) : ∀ r ∈ rootsL S, cut r x ≠ 0 := by
  have hp : prodC ((rootsL S).map cut) x ≠ 0 := fun e => hx ((ev_zero_iff L).mpr e)
  generalize rootsL S = R at hp
  induction R with
  | nil => intro r hr; cases hr
  | cons r R ih =>
    rw [List.map_cons, prodC_cons] at hp
    intro s hs
    rcases List.mem_cons.mp hs with rfl | hs
    · intro e; rw [e, Int.zero_mul] at hp; exact hp rfl
    · exact ih (fun e => hp (by rw [e, Int.mul_zero])) s hs
theorem root_told {S : List Fa} {h : List Int} (L : Lf S h) {q : Int × Int} (hq : Red q) (hz : ev h (qv q) = 0) : Rt.rat q ∈ rootsL S := by
  have hpz := (ev_zero_iff L).mp hz
  have hex : ∃ r ∈ rootsL S, cut r (qv q) = 0 := by
    generalize rootsL S = R at hpz
    induction R with
    | nil => exact absurd hpz (show (1 : Int) ≠ 0 by decide)
    | cons r R ih =>
      rw [List.map_cons, prodC_cons] at hpz
      rcases Int.mul_eq_zero.mp hpz with h1 | h1
      · exact ⟨r, .head _, h1⟩
      · obtain ⟨s, a, b⟩ := ih h1; exact ⟨s, .tail _ a, b⟩
  obtain ⟨r, r1, r2⟩ := hex
  have hin := rootsL_in L.ins r r1
  cases r with
  | rat p =>
    have h3 : qv q = qv p := by
      have h2 : sg (qv q - qv p) = 0 := r2
      unfold sg at h2
      split at h2
      · omega
      · split at h2
        · omega
        · grind
    rw [red_eq hq (lq_red hin) h3]; exact r1
  | root s k =>
    exfalso
    obtain ⟨hs, hk⟩ := hin
    rcases hs with rfl | rfl
    · rw [cut_pos] at r2; split at r2 <;> omega
    · rw [cut_neg] at r2; split at r2 <;> omega
structure PF (S : List Fa) (ys : List (Int × Int)) (i K : Iv) : Prop where
  lo : qv i.1 ≤ qv K.1
  hi : qv K.2 ≤ qv i.2
  o1 : Okq 4000 K.1
  o2 : Okq 4000 K.2
  r1 : Red K.1
  r2 : Red K.2
  it : (K.1 = K.2 ∧ Rt.rat K.1 ∈ rootsL S) ∨ (qv K.1 < qv K.2 ∧ rc S (qv K.1) (qv K.2) = 1 ∧ (∀ r ∈ rootsL S, cut r (qv K.2) ≠ 0) ∧ ∀ y ∈ ys, ¬ (qv K.1 ≤ qv y ∧ qv y ≤ qv K.2))
theorem PF.wide {S : List Fa} {ys : List (Int × Int)} {i j K : Iv} (h : PF S ys j K) (h1 : qv i.1 ≤ qv j.1) (h2 : qv j.2 ≤ qv i.2) : PF S ys i K :=
  ⟨by have := h.lo; grind, by have := h.hi; grind, h.o1, h.o2, h.r1, h.r2, h.it⟩
theorem kept_ind {S : List Fa} {h : List Int} (L : Lf S h) {ys : List (Int × Int)} (hy : ∀ y ∈ ys, y ∈ LQ ∧ Rt.rat y ∉ rootsL S) {m : Nat} (hm : 1 ≤ m) (hm' : m ≤ 40) : ∀ (n j : Nat) (a b : Int × Int), n + j ≤ 800 → Dy j a → Dy j b → Bd (2 ^ m) (qv a) → Bd (2 ^ m) (qv b) → qv a < qv b →
    qv b - qv a ≤ 2 ^ n * (1 / 200) → ev h (qv a) ≠ 0 → ev h (qv b) ≠ 0 → rc S (qv a) (qv b) = 1 → ∃ K, KeptR h ys (a, b) K ∧ PF S ys (a, b) K := by
  intro n
  induction n with
  | zero =>
    intro j a b hj da db ba bb hab hw na nb h1
    have oa := dy_ok da hm ba (by omega)
    have ob := dy_ok db hm bb (by omega)
    have p0 : (2 : Rat) ^ 0 = 1 := Rat.pow_zero 2
    rw [p0] at hw
    have far : ∀ y ∈ ys, ¬ (qv a ≤ qv y ∧ qv y ≤ qv b) := by
      intro y hyy hin
      obtain ⟨hlq, hnot⟩ := hy y hyy
      have hex : ∃ r ∈ rootsL S, inI (qv a) (qv b) (cut r) = true := by
        have hpos : 0 < ((rootsL S).map cut).countP (inI (qv a) (qv b)) := by unfold rc cnt at h1; omega
        obtain ⟨c, c1, c2⟩ := List.countP_pos_iff.mp hpos
        obtain ⟨r, r1, rfl⟩ := List.mem_map.mp c1
        exact ⟨r, r1, c2⟩
      obtain ⟨r, r1, r2⟩ := hex
      have hin' := rootsL_in L.ins r r1
      have hc := cut_ok hin'
      refine cut_far (r := r) (r' := .rat y) hin' hlq (fun e => hnot (e ▸ r1)) (x := qv a - 1 / 200) (y := qv b) (by grind) (by grind) ?_ ?_
      · unfold inI at r2 ⊢
        rw [Bool.and_eq_true, beq_iff_eq, decide_eq_true_eq] at r2 ⊢
        have m1 := hc.mono (qv a - 1 / 200) (qv a) (by grind)
        have v1 := hc.val (qv a - 1 / 200)
        exact ⟨by omega, r2.2⟩
      · unfold inI
        rw [Bool.and_eq_true, beq_iff_eq, decide_eq_true_eq]
        constructor
        · show sg _ = -1; unfold sg; rw [if_neg (by grind), if_pos (by grind)]
        · show 0 ≤ sg _; unfold sg
          by_cases e : 0 < qv b - qv y
          · rw [if_pos e]; decide
          · rw [if_neg e, if_neg (by grind)]; decide
    refine ⟨(a, b), KeptR.stop oa ob (.inr fun y hyy => ?_), ⟨Rat.le_refl, Rat.le_refl, oa.mono (by omega), ob.mono (by omega), da.1, db.1, .inr ⟨hab, h1, cut_ne L nb, far⟩⟩⟩
    cases e : inside y (a, b) with
    | false => rfl
    | true => exact absurd ((inside_iff (lq_pos (hy y hyy).1).1 da.1.1 db.1.1).mp e) (far y hyy)
  | succ n ih =>
    intro j a b hj da db ba bb hab hw na nb h1
    have oa := dy_ok da hm ba (by omega)
    have ob := dy_ok db hm bb (by omega)
    have hne : a ≠ b := fun e => by rw [e] at hab; grind
    by_cases hin : ∃ y ∈ ys, inside y (a, b) = true
    · have dm := dy_mid da db
      obtain ⟨rm, em⟩ := midS_red da.1 db.1
      have m1 : qv a < qv (midS a b) := by rw [em]; grind
      have m2 : qv (midS a b) < qv b := by rw [em]; grind
      have bm : Bd (2 ^ m) (qv (midS a b)) := by unfold Bd at *; grind
      have om := dy_ok dm hm bm (by omega)
      have pw : (2 : Rat) ^ (n + 1) = 2 ^ n * 2 := Rat.pow_succ 2 n
      rw [pw] at hw
      have hadd : rc S (qv a) (qv b) = rc S (qv a) (qv (midS a b)) + rc S (qv (midS a b)) (qv b) := cnt_add L.known.cuts (Rat.le_of_lt m1) (Rat.le_of_lt m2)
      by_cases hz : ev h (qv (midS a b)) = 0
      · have hh : halvedS h (a, b) = (midS a b, midS a b) := by unfold halvedS; rw [if_pos ((valSign_ne rm.1).mpr hz)]
        refine ⟨(midS a b, midS a b), KeptR.step oa ob hne hin ?_, ⟨Rat.le_of_lt m1, Rat.le_of_lt m2, om.mono (by omega), om.mono (by omega), rm, rm, .inl ⟨rfl, root_told L rm hz⟩⟩⟩
        rw [hh]
        exact KeptR.stop om om (.inl rfl)
      · have hz' : valSign h (midS a b) ≠ 0 := fun e => hz ((valSign_ne rm.1).mp e)
        obtain ⟨κ, hκ, hs⟩ := L.known.sign
        have sa : valSign h a = κ * prodC ((rootsL S).map cut) (qv a) := by rw [valSign_ev da.1.1, hs]
        have sm : valSign h (midS a b) = κ * prodC ((rootsL S).map cut) (qv (midS a b)) := by rw [valSign_ev rm.1, hs]
        have pa : prodC ((rootsL S).map cut) (qv a) ≠ 0 := fun e => na ((ev_zero_iff L).mpr e)
        have pm : prodC ((rootsL S).map cut) (qv (midS a b)) ≠ 0 := fun e => hz ((ev_zero_iff L).mpr e)
        have za : zer ((rootsL S).map cut) (qv a) = 0 := by
          unfold zer
          rw [List.countP_eq_zero]
          intro c hc e
          obtain ⟨r, r1, rfl⟩ := List.mem_map.mp hc
          exact cut_ne L na r r1 (by simpa using e)
        by_cases hsg : valSign h (midS a b) = valSign h a
        · have hh : halvedS h (a, b) = (midS a b, b) := by unfold halvedS; rw [if_neg hz', if_pos hsg]
          have h0 : rc S (qv a) (qv (midS a b)) = 0 := by
            by_cases e : rc S (qv a) (qv (midS a b)) = 1
            · rcases prod_one L.known.cuts (Rat.le_of_lt m1) e za with h2 | h2
              · exact absurd h2 pm
              · rw [sa, sm, h2, Int.mul_neg] at hsg
                have := Int.mul_ne_zero (show κ ≠ 0 by omega) pa
                omega
            · omega
          obtain ⟨K, k1, k2⟩ := ih (j + 1) (midS a b) b (by omega) dm (db.up (by omega)) bm bb m2 (by rw [em]; grind) hz nb (by omega)
          exact ⟨K, KeptR.step oa ob hne hin (by rw [hh]; exact k1), k2.wide (Rat.le_of_lt m1) Rat.le_refl⟩
        · have hh : halvedS h (a, b) = (a, midS a b) := by unfold halvedS; rw [if_neg hz', if_neg hsg]
          have h0 : rc S (qv a) (qv (midS a b)) = 1 := by
            by_cases e : rc S (qv a) (qv (midS a b)) = 0
            · rcases prod_none L.known.cuts (Rat.le_of_lt m1) e with h2 | h2
              · exact absurd h2 pa
              · exact absurd (by rw [sa, sm, h2]) hsg
            · omega
          obtain ⟨K, k1, k2⟩ := ih (j + 1) a (midS a b) (by omega) (da.up (by omega)) dm ba bm m1 (by rw [em]; grind) na hz h0
          exact ⟨K, KeptR.step oa ob hne hin (by rw [hh]; exact k1), k2.wide Rat.le_refl (Rat.le_of_lt m2)⟩
    · have hin' : ∀ y ∈ ys, inside y (a, b) = false := fun y hyy => by
        cases e : inside y (a, b) with
        | false => rfl
        | true => exact absurd ⟨y, hyy, e⟩ hin
      refine ⟨(a, b), KeptR.stop oa ob (.inr hin'), ⟨Rat.le_refl, Rat.le_refl, oa.mono (by omega), ob.mono (by omega), da.1, db.1, .inr ⟨hab, h1, cut_ne L nb, fun y hyy e => ?_⟩⟩⟩
      have := (inside_iff (i := (a, b)) (lq_pos (hy y hyy).1).1 da.1.1 db.1.1).mpr e
      rw [hin' y hyy] at this; cases this
end Mine
end

section
open PySem PySem.W PyProof.Rows PySem.Calls
namespace Mine

noncomputable def lessR (r r' : Rt) : Prop := ∃ x : Rat, 0 ≤ cut r x ∧ cut r' x = -1
theorem lessR_asym {r r' : Rt} (h : RtIn r) (h' : RtIn r') (a : lessR r r') (b : lessR r' r) : False := by
  obtain ⟨x, a1, a2⟩ := a
  obtain ⟨y, b1, b2⟩ := b
  by_cases hxy : x ≤ y
  · have := (cut_ok h).mono x y hxy; omega
  · have := (cut_ok h').mono y x (by grind); omega
theorem lessR_trans {r r' r'' : Rt} (h : RtIn r) (h' : RtIn r') (a : lessR r r') (b : lessR r' r'') : lessR r r'' := by
  obtain ⟨x, a1, a2⟩ := a
  obtain ⟨y, b1, b2⟩ := b
  have hxy : x ≤ y := by
    by_cases hxy : x ≤ y
    · exact hxy
    · have := (cut_ok h').mono y x (by grind); omega
  have := (cut_ok h).mono x y hxy
  exact ⟨y, by omega, b2⟩
noncomputable def XS : List (Int × Int) := LQ ++ [(7, 3), (5, 2), (-7, 3), (-5, 2), (10, 7), (7, 4), (-7, 5), (-8, 5), (-11, 5), (14, 5)]
noncomputable def RA : List Rt := LQ.map Rt.rat ++ LK.map (Rt.root 1) ++ LK.map (Rt.root (-1))
noncomputable def lessB (r r' : Rt) : Bool := XS.any fun x => atMost r x && !atMost r' x
theorem rt_mem {r : Rt} (h : RtIn r) : r ∈ RA := by
  unfold RA
  cases r with
  | rat q => exact List.mem_append_left _ (List.mem_append_left _ (List.mem_map_of_mem h))
  | root s k =>
    obtain ⟨hs, hk⟩ := h
    rcases hs with rfl | rfl
    · exact List.mem_append_left _ (List.mem_append_right _ (List.mem_map_of_mem hk))
    · exact List.mem_append_right _ (List.mem_map_of_mem hk)
theorem lessB_less {r r' : Rt} (h : RtIn r) (h' : RtIn r') (e : lessB r r' = true) : lessR r r' := by
  unfold lessB at e
  obtain ⟨x, hx, e⟩ := List.any_eq_true.mp e
  have hred : Red x := by
    have key : ∀ x ∈ XS, 0 < x.2 ∧ Int.gcd x.1 x.2 = 1 := by decide +kernel
    exact key x hx
  rw [Bool.and_eq_true, Bool.not_eq_true'] at e
  have v := (cut_ok h').val (qv x)
  refine ⟨qv x, (atMost_iff h hred).mp e.1, ?_⟩
  have : ¬ 0 ≤ cut r' (qv x) := fun c => by rw [(atMost_iff h' hred).mpr c] at e; exact absurd e.2 (by decide)
  omega
theorem trich {r r' : Rt} (h : RtIn r) (h' : RtIn r') (hne : r ≠ r') : (rootLess r r' = true ∧ lessR r r') ∨ (rootLess r r' = false ∧ lessR r' r) := by
  have key : ∀ r ∈ RA, ∀ r' ∈ RA, r = r' ∨ (rootLess r r' = true ∧ lessB r r' = true) ∨ (rootLess r r' = false ∧ lessB r' r = true) := by decide +kernel
  rcases key r (rt_mem h) r' (rt_mem h') with e | e | e
  · exact absurd e hne
  · exact .inl ⟨e.1, lessB_less h h' e.2⟩
  · exact .inr ⟨e.1, lessB_less h' h e.2⟩
noncomputable def Told (l : List Rt) : Prop := (∀ r ∈ l, RtIn r) ∧ l.Pairwise lessR
theorem told_split {l : List Rt} (h : Told l) {one : Rt} (h1 : RtIn one) (hn : one ∉ l) : (∀ o ∈ l.take (insAtR l one), lessR o one) ∧ (∀ o ∈ l.drop (insAtR l one), lessR one o) := by
  induction l with
  | nil => exact ⟨fun o ho => by simp at ho, fun o ho => by simp at ho⟩
  | cons r l ih =>
    obtain ⟨hin, hp⟩ := h
    obtain ⟨p1, p2⟩ := List.pairwise_cons.mp hp
    have hr := hin r (.head _)
    have hne : r ≠ one := fun e => hn (e ▸ .head _)
    obtain ⟨i1, i2⟩ := ih ⟨fun s hs => hin s (.tail _ hs), p2⟩ (fun e => hn (.tail _ e))
    rcases trich hr h1 hne with ⟨t1, t2⟩ | ⟨t1, t2⟩
    · have e : insAtR (r :: l) one = insAtR l one + 1 := by unfold insAtR; rw [List.filter_cons, if_pos t1, List.length_cons]
      rw [e, List.take_succ_cons, List.drop_succ_cons]
      refine ⟨fun o ho => ?_, i2⟩
      rcases List.mem_cons.mp ho with rfl | ho
      · exact t2
      · exact i1 o ho
    · have hall : ∀ s ∈ l, lessR one s := fun s hs => lessR_trans h1 hr t2 (p1 s hs)
      have e0 : l.filter (fun o => rootLess o one) = [] := by
        rw [List.filter_eq_nil_iff]
        intro s hs e
        have hs' := hin s (.tail _ hs)
        have hsne : s ≠ one := fun e => hn (e ▸ .tail _ hs)
        rcases trich hs' h1 hsne with ⟨_, u⟩ | ⟨u, _⟩
        · exact lessR_asym hs' h1 u (hall s hs)
        · rw [u] at e; cases e
      have e : insAtR (r :: l) one = 0 := by unfold insAtR; rw [List.filter_cons, if_neg (by rw [t1]; decide), e0]; rfl
      rw [e, List.take_zero, List.drop_zero]
      refine ⟨fun o ho => (nomatch ho), fun o ho => ?_⟩
      rcases List.mem_cons.mp ho with rfl | ho
      · exact t2
      · exact hall o ho
theorem told_ins {l : List Rt} (h : Told l) {one : Rt} (h1 : RtIn one) : Told (insR l one) ∧ ∀ r, r ∈ insR l one ↔ r = one ∨ r ∈ l := by
  unfold insR
  by_cases hn : one ∈ l
  · rw [if_pos hn]
    refine ⟨h, fun r => ⟨.inr, fun e => ?_⟩⟩
    rcases e with rfl | e
    · exact hn
    · exact e
  · rw [if_neg hn]
    obtain ⟨a, b⟩ := told_split h h1 hn
    have hm : ∀ r, r ∈ l.take (insAtR l one) ++ one :: l.drop (insAtR l one) ↔ r = one ∨ r ∈ l := fun r => by
      rw [List.mem_append, List.mem_cons]
      have e : r ∈ l ↔ r ∈ l.take (insAtR l one) ∨ r ∈ l.drop (insAtR l one) := by
        rw [← List.mem_append, List.take_append_drop]
      rw [e]
      constructor
      · rintro (h | h | h)
        · exact .inr (.inl h)
        · exact .inl h
        · exact .inr (.inr h)
      · rintro (h | h | h)
        · exact .inr (.inl h)
        · exact .inl h
        · exact .inr (.inr h)
    refine ⟨⟨fun r hr => ?_, ?_⟩, hm⟩
    · rcases (hm r).mp hr with rfl | hr
      · exact h1
      · exact h.1 r hr
    · have hp := h.2
      rw [← List.take_append_drop (insAtR l one) l] at hp
      obtain ⟨q1, q2, q3⟩ := List.pairwise_append.mp hp
      refine List.pairwise_append.mpr ⟨q1, List.pairwise_cons.mpr ⟨b, q2⟩, fun s hs t ht => ?_⟩
      rcases List.mem_cons.mp ht with rfl | ht
      · exact a s hs
      · exact q3 s hs t ht
theorem told_inss : ∀ (rs : List Rt) (l : List Rt), Told l → (∀ r ∈ rs, RtIn r) → Told (rs.foldl insR l) ∧ ∀ r, r ∈ rs.foldl insR l ↔ r ∈ rs ∨ r ∈ l
  | [], l, h, _ => ⟨h, fun r => by simp⟩
  | s :: rs, l, h, hr => by
    obtain ⟨a1, a2⟩ := told_ins h (hr s (.head _))
    obtain ⟨b1, b2⟩ := told_inss rs (insR l s) a1 (fun r h => hr r (.tail _ h))
    refine ⟨b1, fun r => ?_⟩
    rw [List.foldl_cons, b2, a2, List.mem_cons]
    constructor
    · rintro (h | h | h)
      · exact .inl (.inr h)
      · exact .inl (.inl h)
      · exact .inr h
    · rintro ((h | h) | h)
      · exact .inr (.inl h)
      · exact .inl h
      · exact .inr (.inr h)
theorem told_all : ∀ (fs : List (Fa × Bool)) (l : List Rt), Told l → (∀ fb ∈ fs, FaIn fb.1) → Told (fs.foldl (fun told fb => (rootsS fb.1).foldl insR told) l) ∧ ∀ r, r ∈ fs.foldl (fun told fb => (rootsS fb.1).foldl insR told) l ↔ (∃ fb ∈ fs, r ∈ rootsS fb.1) ∨ r ∈ l
  | [], l, h, _ => ⟨h, fun r => by simp⟩
  | fb :: fs, l, h, hf => by
    obtain ⟨a1, a2⟩ := told_inss (rootsS fb.1) l h (rootsS_in (hf fb (.head _)))
    obtain ⟨b1, b2⟩ := told_all fs _ a1 (fun g hg => hf g (.tail _ hg))
    refine ⟨b1, fun r => ?_⟩
    rw [List.foldl_cons, b2, a2]
    constructor
    · rintro (⟨g, g1, g2⟩ | h | h)
      · exact .inl ⟨g, .tail _ g1, g2⟩
      · exact .inl ⟨fb, .head _, h⟩
      · exact .inr h
    · rintro (⟨g, g1, g2⟩ | h)
      · rcases List.mem_cons.mp g1 with rfl | g1
        · exact .inr (.inl g2)
        · exact .inl ⟨g, g1, g2⟩
      · exact .inr (.inr h)
theorem rootsOf_told {fs : List (Fa × Bool)} (h : ∀ fb ∈ fs, FaIn fb.1) : Told (rootsOf fs) ∧ ∀ r, r ∈ rootsOf fs ↔ ∃ fb ∈ fs, r ∈ rootsS fb.1 := by
  obtain ⟨a, b⟩ := told_all fs [] ⟨fun r h => (nomatch h), List.Pairwise.nil⟩ h
  exact ⟨a, fun r => by unfold rootsOf; rw [b]; simp⟩
theorem told_nodup {l : List Rt} (h : Told l) : l.Nodup := h.2.imp_of_mem fun {a b} ha hb hab e => by
  subst e; exact lessR_asym (h.1 a ha) (h.1 a ha) hab hab
end Mine
end

section
open PySem PySem.W PyProof.Rows PySem.Calls
namespace Mine

noncomputable def hiLe (p q : Iv) : Prop := qv p.2 ≤ qv q.2
theorem insS_perm (l : List Iv) (p : Iv) : (insS l p).Perm (p :: l) := by
  unfold insS
  have h : (l.take (insAt p l) ++ p :: l.drop (insAt p l)).Perm (p :: (l.take (insAt p l) ++ l.drop (insAt p l))) := List.perm_middle
  rwa [List.take_append_drop] at h
theorem sortedS_perm (l : List Iv) : (sortedS l).Perm l := by
  have key : ∀ (l acc : List Iv), (l.foldl insS acc).Perm (l ++ acc) := by
    intro l
    induction l with
    | nil => intro acc; exact List.Perm.refl _
    | cons p l ih =>
      intro acc
      rw [List.foldl_cons]
      refine (ih (insS acc p)).trans ?_
      refine (List.Perm.append_left l (insS_perm acc p)).trans ?_
      exact List.perm_middle
  have := key l []
  rwa [List.append_nil] at this
theorem below_iff {p e : Iv} (hp : 0 < p.2.2) (he : 0 < e.2.2) : below p e = true ↔ qv e.2 < qv p.2 := by
  unfold below
  rw [decide_eq_true_eq]
  have h := rcmp_le hp he
  have h1 : rcmp e.2 p.2 = sgn (e.2.1 * p.2.2 - p.2.1 * e.2.2) := rfl
  rw [qv_lt he hp, h1, sgn_eq]
  constructor
  · intro h2; split at h2
    · omega
    · split at h2
      · omega
      · omega
  · intro h2; rw [if_neg (by omega), if_pos (by omega)]; decide
theorem insS_sorted {l : List Iv} {p : Iv} (hl : ∀ e ∈ l, 0 < e.2.2) (hp : 0 < p.2.2) (h : l.Pairwise hiLe) : (insS l p).Pairwise hiLe := by
  have key : (∀ e ∈ l.take (insAt p l), hiLe e p) ∧ (∀ e ∈ l.drop (insAt p l), hiLe p e) := by
    induction l with
    | nil => exact ⟨fun e he => by simp at he, fun e he => by simp at he⟩
    | cons e l ih =>
      obtain ⟨p1, p2⟩ := List.pairwise_cons.mp h
      by_cases hb : below p e = true
      · have e1 : insAt p (e :: l) = insAt p l + 1 := by unfold insAt; rw [List.takeWhile_cons, if_pos hb, List.length_cons]
        obtain ⟨i1, i2⟩ := ih (fun x hx => hl x (.tail _ hx)) p2
        rw [e1, List.take_succ_cons, List.drop_succ_cons]
        refine ⟨fun x hx => ?_, i2⟩
        rcases List.mem_cons.mp hx with rfl | hx
        · exact Rat.le_of_lt ((below_iff hp (hl _ (.head _))).mp hb)
        · exact i1 x hx
      · have e1 : insAt p (e :: l) = 0 := by unfold insAt; rw [List.takeWhile_cons, if_neg hb]; rfl
        rw [e1, List.take_zero, List.drop_zero]
        have h0 : hiLe p e := by
          have : ¬ qv e.2 < qv p.2 := fun c => hb ((below_iff hp (hl _ (.head _))).mpr c)
          unfold hiLe; grind
        refine ⟨fun x hx => (nomatch hx), fun x hx => ?_⟩
        rcases List.mem_cons.mp hx with rfl | hx
        · exact h0
        · have := p1 x hx; unfold hiLe at *; grind
  unfold insS
  have hp2 := h
  rw [← List.take_append_drop (insAt p l) l] at hp2
  obtain ⟨q1, q2, q3⟩ := List.pairwise_append.mp hp2
  refine List.pairwise_append.mpr ⟨q1, List.pairwise_cons.mpr ⟨key.2, q2⟩, fun s hs t ht => ?_⟩
  rcases List.mem_cons.mp ht with rfl | ht
  · exact key.1 s hs
  · exact q3 s hs t ht
theorem sortedS_sorted {l : List Iv} (hl : ∀ e ∈ l, 0 < e.2.2) : (sortedS l).Pairwise hiLe := by
  have key : ∀ (l acc : List Iv), (∀ e ∈ l, 0 < e.2.2) → (∀ e ∈ acc, 0 < e.2.2) → acc.Pairwise hiLe → (l.foldl insS acc).Pairwise hiLe := by
    intro l
    induction l with
    | nil => intro acc _ _ h; exact h
    | cons p l ih =>
      intro acc h1 h2 h3
      rw [List.foldl_cons]
      refine ih _ (fun e he => h1 e (.tail _ he)) (fun e he => ?_) (insS_sorted h2 (h1 p (.head _)) h3)
      rcases List.mem_cons.mp ((insS_perm acc p).mem_iff.mp he) with rfl | he
      · exact h1 _ (.head _)
      · exact h2 e he
  exact key l [] hl (fun e he => (nomatch he)) List.Pairwise.nil
structure PC (p : Iv) (r : Rt) : Prop where
  rin : RtIn r
  r1 : Red p.1
  r2 : Red p.2
  it : (p.1 = p.2 ∧ r = .rat p.1) ∨ (qv p.1 < qv p.2 ∧ cut r (qv p.1) = -1 ∧ cut r (qv p.2) = 1)
theorem PC.le {p : Iv} {r : Rt} (h : PC p r) : qv p.1 ≤ qv p.2 := by
  rcases h.it with ⟨e, _⟩ | ⟨e, _⟩
  · rw [e]; exact Rat.le_refl
  · exact Rat.le_of_lt e
theorem cut_self {q : Int × Int} {x : Rat} : (x < qv q → cut (.rat q) x = -1) ∧ (qv q ≤ x → 0 ≤ cut (.rat q) x) := by
  constructor
  · intro h; show sg _ = -1; unfold sg; rw [if_neg (by grind), if_pos (by grind)]
  · intro h; show 0 ≤ sg _; unfold sg
    by_cases e : 0 < x - qv q
    · rw [if_pos e]; decide
    · rw [if_neg e, if_neg (by grind)]; decide
theorem PC.less {p q : Iv} {r s : Rt} (hp : PC p r) (hq : PC q s) (h : qv p.2 ≤ qv q.1) (hne : r ≠ s) : lessR r s := by
  have a : 0 ≤ cut r (qv p.2) := by
    rcases hp.it with ⟨e, rfl⟩ | ⟨e, e1, e2⟩
    · exact cut_self.2 (by rw [e]; exact Rat.le_refl)
    · rw [e2]; decide
  rcases hq.it with ⟨e, rfl⟩ | ⟨e, e1, e2⟩
  · by_cases hlt : qv p.2 < qv q.1
    · exact ⟨qv p.2, a, cut_self.1 hlt⟩
    · have heq : qv p.2 = qv q.1 := by grind
      rcases hp.it with ⟨f, rfl⟩ | ⟨f, f1, f2⟩
      · exact absurd (by rw [f, red_eq hp.r2 hq.r1 heq]) hne
      · -- the root of p lies below its high end
        rcases trich hp.rin hq.rin hne with ⟨_, t⟩ | ⟨_, ⟨x, t1, t2⟩⟩
        · exact t
        · exfalso
          have hx : qv q.1 ≤ x := by
            by_cases c : qv q.1 ≤ x
            · exact c
            · have := (cut_self (q := q.1) (x := x)).1 (by grind); omega
          have := (cut_ok hp.rin).mono (qv p.2) x (by rw [heq]; exact hx)
          omega
  · have m := (cut_ok hq.rin).mono (qv p.2) (qv q.1) h
    have v := (cut_ok hq.rin).val (qv p.2)
    exact ⟨qv p.2, a, by omega⟩
end Mine
end

section
open PySem PySem.W PyProof.Rows PySem.Calls
namespace Mine

noncomputable def Apart2 (p q : Iv) : Prop := (qv p.2 ≤ qv q.1 ∧ qv p.2 < qv q.2) ∨ (qv q.2 ≤ qv p.1 ∧ qv q.2 < qv p.2)
theorem Apart2.symm {p q : Iv} (h : Apart2 p q) : Apart2 q p := Or.symm h
theorem PC.ne {p q : Iv} {r s : Rt} (hp : PC p r) (hq : PC q s) (h : qv p.2 ≤ qv q.1) (h2 : qv p.2 < qv q.2) : r ≠ s := by
  intro e
  subst e
  have a : 0 ≤ cut r (qv p.2) := by
    rcases hp.it with ⟨e, rfl⟩ | ⟨e, e1, e2⟩
    · exact cut_self.2 (by rw [e]; exact Rat.le_refl)
    · rw [e2]; decide
  rcases hq.it with ⟨e, rfl⟩ | ⟨e, e1, e2⟩
  · have := (cut_self (q := q.1) (x := qv p.2)).1 (by rw [e]; exact h2)
    omega
  · have := (cut_ok hp.rin).mono _ _ h
    omega
theorem perm_of_sub {α : Type} : ∀ {A B : List α}, A.Nodup → (∀ a ∈ A, a ∈ B) → B.length ≤ A.length → A.Perm B
  | [], B, _, _, h => by
    rw [List.length_eq_zero_iff.mp (Nat.le_zero.mp h)]
  | a :: A, B, hn, hs, hl => by
    obtain ⟨n1, n2⟩ := List.nodup_cons.mp hn
    obtain ⟨s, t, rfl⟩ := List.append_of_mem (hs a (.head _))
    have hp : (s ++ a :: t).Perm (a :: (s ++ t)) := List.perm_middle
    refine List.Perm.trans (List.Perm.cons a (perm_of_sub n2 (fun b hb => ?_) ?_)) hp.symm
    · rcases List.mem_cons.mp (hp.mem_iff.mp (hs b (.tail _ hb))) with e | e
      · exact absurd (e ▸ hb) n1
      · exact e
    · have := hp.length_eq
      rw [this] at hl
      simpa using hl
theorem sorted_eq : ∀ {A B : List Rt}, Told A → Told B → A.Perm B → A = B
  | [], B, _, _, h => (List.nil_perm.mp h).symm ▸ rfl
  | a :: A, [], _, _, h => absurd (h.length_eq) (by simp)
  | a :: A, b :: B, hA, hB, h => by
    obtain ⟨a1, a2⟩ := List.pairwise_cons.mp hA.2
    obtain ⟨b1, b2⟩ := List.pairwise_cons.mp hB.2
    have ina := hA.1 a (.head _)
    have inb := hB.1 b (.head _)
    have e : a = b := by
      rcases List.mem_cons.mp (h.mem_iff.mp (.head _ : a ∈ a :: A)) with e | e
      · exact e
      · rcases List.mem_cons.mp (h.mem_iff.mpr (.head _ : b ∈ b :: B)) with e' | e'
        · exact e'.symm
        · exact (lessR_asym ina inb (a1 b e') (b1 a e)).elim
    subst e
    rw [sorted_eq ⟨fun r hr => hA.1 r (.tail _ hr), a2⟩ ⟨fun r hr => hB.1 r (.tail _ hr), b2⟩ (List.Perm.cons_inv h)]
theorem pr_of {told : List Rt} (HT : Told told) {P : List Iv} (each : ∀ p ∈ P, ∃ r, r ∈ told ∧ PC p r ∧ PieceOk told p r) (len : P.length = told.length) (apart : P.Pairwise Apart2) : PR (sortedS P) told := by
  have hperm := sortedS_perm P
  have pos : ∀ p ∈ P, 0 < p.2.2 := fun p hp => by obtain ⟨r, _, h, _⟩ := each p hp; exact h.r2.1
  have hsort := sortedS_sorted pos
  have hap : (sortedS P).Pairwise Apart2 := (hperm.pairwise_iff (fun {a b} h => Apart2.symm h)).mpr apart
  have each' : ∀ p ∈ sortedS P, ∃ r, r ∈ told ∧ PC p r ∧ PieceOk told p r := fun p hp => each p (hperm.mem_iff.mp hp)
  have hlen : (sortedS P).length = told.length := by rw [hperm.length_eq, len]
  generalize sortedS P = L at hsort hap each' hlen
  have hup : L.Pairwise fun p q => qv p.2 ≤ qv q.1 ∧ qv p.2 < qv q.2 := by
    refine (hsort.and hap).imp fun {p q} h => ?_
    obtain ⟨h1, h2⟩ := h
    rcases h2 with h2 | h2
    · exact h2
    · exfalso
      have := h2.2
      unfold hiLe at h1
      grind
  have hex : ∀ p : Iv, ∃ r : Rt, p ∈ L → (r ∈ told ∧ PC p r ∧ PieceOk told p r) := fun p => by
    by_cases hp : p ∈ L
    · obtain ⟨r, h⟩ := each' p hp
      exact ⟨r, fun _ => h⟩
    · exact ⟨.rat (0, 1), fun h => absurd h hp⟩
  obtain ⟨ρ, hρ⟩ := Classical.axiomOfChoice hex
  have hT2 : Told (L.map ρ) := by
    refine ⟨fun r hr => ?_, ?_⟩
    · obtain ⟨p, hp, rfl⟩ := List.mem_map.mp hr
      exact (hρ p hp).2.1.rin
    · refine List.pairwise_map.mpr (hup.imp_of_mem fun {p q} hp hq h => ?_)
      exact (hρ p hp).2.1.less (hρ q hq).2.1 h.1 ((hρ p hp).2.1.ne (hρ q hq).2.1 h.1 h.2)
  have heq : L.map ρ = told := sorted_eq hT2 HT (perm_of_sub (told_nodup hT2) (fun r hr => by
    obtain ⟨p, hp, rfl⟩ := List.mem_map.mp hr
    exact (hρ p hp).1) (by rw [List.length_map]; omega))
  refine ⟨hlen, fun i p r hp hr => ?_, fun i p q hp hq => ?_⟩
  · rw [← heq, List.getElem?_map, hp] at hr
    cases hr
    exact (hρ p (List.mem_of_getElem? hp)).2.2
  · have h1 := List.pairwise_iff_getElem.mp hup
    obtain ⟨i1, e1⟩ := List.getElem?_eq_some_iff.mp hp
    obtain ⟨i2, e2⟩ := List.getElem?_eq_some_iff.mp hq
    have h2 := (h1 i (i + 1) i1 i2 (by omega)).1
    rw [e1, e2] at h2
    have P1 := (hρ p (List.mem_of_getElem? hp)).2.1
    have P2 := (hρ q (List.mem_of_getElem? hq)).2.1
    cases e : ratLess q.1 p.2 with
    | false => rfl
    | true =>
      have := (ratLess_iff P2.r1.1 P1.r2.1).mp e
      grind
end Mine
end

section
open PySem PySem.W PyProof.Rows PySem.Calls
namespace Mine

theorem rootsL_lin (ys : List (Int × Int)) (S : List Fa) : rootsL (ys.map Fa.lin ++ S) = ys.map Rt.rat ++ rootsL S := by
  unfold rootsL
  rw [List.flatMap_append]
  congr 1
  induction ys with
  | nil => rfl
  | cons y ys ih => rw [List.map_cons, List.flatMap_cons, ih]; rfl
theorem rootsL_perm {A B : List Fa} (h : A.Perm B) : (rootsL A).Perm (rootsL B) := h.flatMap_right rootsS
theorem cnt_append (A B : Cuts) (x y : Rat) : cnt (A ++ B) x y = cnt A x y + cnt B x y := List.countP_append ..
theorem iso_field (SZ : ∀ S h, Lf3 S h → RowOk h) {S : List Fa} {h : List Int} {told : List Rt} (L : Lf3 S h) (HT : Told told) (hm : told.Perm (rootsL S)) :
    ∃ (r : List Iv × Option (Int × Int)) (left : List Int) (xs : List (Int × Int)) (found : List Iv) (K : Iv → Iv), SpAt h r ∧ IsoR h [] r (left, xs, found) ∧ left.length ≤ 8 ∧ SmL 4000 left ∧ (∀ x ∈ xs, Okq 1000 x) ∧ xs.length ≤ 100 ∧ found.length ≤ 100 ∧
      (∀ i ∈ found, KeptR left xs i (K i)) ∧ (∀ i ∈ found, Okq 4000 (K i).1 ∧ Okq 4000 (K i).2) ∧ PR (sortedS (xs.map (fun x => (x, x)) ++ found.map K)) told := by
  have hl3 := L.len
  obtain ⟨r, left, ys, found, S', a1, a2, a3, a4, a5, a6, a7, a8⟩ := iso_ind SZ S.length S h (Nat.le_refl _) L [] (by simp; omega)
  rw [List.nil_append] at a2
  have hlS := a4.length_eq
  rw [List.length_append, List.length_map] at hlS
  obtain ⟨s1, s2, s3⟩ := a3.size
  have hins : ∀ fa ∈ ys.map Fa.lin ++ S', FaIn fa := fun fa hfa => L.ins fa (a4.mem_iff.mpr hfa)
  have hnd : (ys.map Fa.lin ++ S').Nodup := a4.nodup_iff.mp L.nd
  have hrn := rootsL_nodup hnd
  rw [rootsL_lin] at hrn
  have hyl : ∀ y ∈ ys, y ∈ LQ := fun y hy => hins (.lin y) (List.mem_append_left _ (List.mem_map_of_mem hy))
  have hyn : ∀ y ∈ ys, Rt.rat y ∉ rootsL S' := fun y hy e => (List.nodup_append.mp hrn).2.2 _ (List.mem_map_of_mem hy) _ e rfl
  have htp : told.Perm (ys.map Rt.rat ++ rootsL S') := by
    rw [← rootsL_lin]; exact hm.trans (rootsL_perm a4)
  have pw : (2 : Rat) ^ 12 = 4096 := by rw [pow_cast]; rfl
  have pw21 : (2 : Rat) ^ 21 = 2097152 := by rw [pow_cast]; rfl
  have hK : ∀ i : Iv, ∃ K : Iv, i ∈ found → (KeptR left ys i K ∧ PF S' ys i K) := fun i => by
    by_cases hi : i ∈ found
    · have g := a7 i hi
      obtain ⟨j, j1, j2, j3⟩ := g.dy
      have b1 := g.b1
      have b2 := g.b2
      obtain ⟨K, k1, k2⟩ := kept_ind a3.lf (fun y hy => ⟨hyl y hy, hyn y hy⟩) (m := 12) (by decide) (by decide) 21 j i.1 i.2 (by omega) j2 j3 b1 b2 g.lt (by
        rw [pw] at b1 b2; rw [pw21]; unfold Bd at b1 b2; grind) g.n1 g.n2 g.one
      exact ⟨K, fun _ => ⟨k1, k2⟩⟩
    · exact ⟨i, fun h => absurd h hi⟩
  obtain ⟨K, hK⟩ := Classical.axiomOfChoice hK
  have hf6 : found.length ≤ 100 := by
    rw [a6]
    have key : ∀ T : List Fa, (rootsL T).length ≤ 2 * T.length := by
      intro T
      induction T with
      | nil => simp [rootsL]
      | cons fa T ih =>
        unfold rootsL at *
        rw [List.flatMap_cons, List.length_append, List.length_cons]
        have : (rootsS fa).length ≤ 2 := by cases fa <;> simp [rootsS]
        omega
    have := key S'
    omega
  have told_in : ∀ r, r ∈ told ↔ r ∈ ys.map Rt.rat ∨ r ∈ rootsL S' := fun r => by rw [htp.mem_iff, List.mem_append]
  refine ⟨r, left, ys, found, K, a1, a2, by omega, s3.mono (by decide), fun y hy => (a5 y hy).2, by omega, hf6, fun i hi => (hK i hi).1, fun i hi => ⟨(hK i hi).2.o1, (hK i hi).2.o2⟩, ?_⟩
  refine pr_of HT (fun p hp => ?_) ?_ ?_
  · rcases List.mem_append.mp hp with hp | hp
    · obtain ⟨y, hy, rfl⟩ := List.mem_map.mp hp
      refine ⟨.rat y, (told_in _).mpr (.inl (List.mem_map_of_mem hy)), ⟨hyl y hy, (a5 y hy).1, (a5 y hy).1, .inl ⟨rfl, rfl⟩⟩, ⟨fun _ => rfl, fun e => absurd rfl e, fun e => absurd rfl e, fun e => absurd rfl e, fun e => absurd rfl e⟩⟩
    · obtain ⟨i, hi, rfl⟩ := List.mem_map.mp hp
      have F := (hK i hi).2
      rcases F.it with ⟨f1, f2⟩ | ⟨f1, f2, f3, f4⟩
      · refine ⟨.rat (K i).1, (told_in _).mpr (.inr f2), ⟨rootsL_in a3.ins _ f2, F.r1, F.r2, .inl ⟨f1, rfl⟩⟩, ⟨fun _ => rfl, fun e => absurd f1 e, fun e => absurd f1 e, fun e => absurd f1 e, fun e => absurd f1 e⟩⟩
      · have hpos : 0 < ((rootsL S').map cut).countP (inI (qv (K i).1) (qv (K i).2)) := by unfold rc cnt at f2; omega
        obtain ⟨c, c1, c2⟩ := List.countP_pos_iff.mp hpos
        obtain ⟨s, t1, rfl⟩ := List.mem_map.mp c1
        have hin := rootsL_in a3.ins s t1
        unfold inI at c2
        rw [Bool.and_eq_true, beq_iff_eq, decide_eq_true_eq] at c2
        have hc2 : cut s (qv (K i).2) = 1 := by
          have := f3 s t1
          have := (cut_ok hin).val (qv (K i).2)
          omega
        have hne : (K i).1 ≠ (K i).2 := fun e => by rw [e] at f1; grind
        refine ⟨s, (told_in _).mpr (.inr t1), ⟨hin, F.r1, F.r2, .inr ⟨f1, c2.1, hc2⟩⟩, ⟨fun e => absurd e hne, fun _ => (ratLess_iff F.r1.1 F.r2.1).mpr f1, fun _ => ?_, fun _ => (above_iff hin F.r2.1).mpr hc2, fun _ => ?_⟩⟩
        · cases e : atMost s (K i).1 with
          | false => rfl
          | true => have := (atMost_iff hin F.r1).mp e; omega
        · rw [counted_cnt HT.1 F.r1 F.r2, cnt_perm (htp.map cut), List.map_append, cnt_append]
          have z : cnt ((ys.map Rt.rat).map cut) (qv (K i).1) (qv (K i).2) = 0 := cnt_none fun r hr => by
            obtain ⟨y, hy, rfl⟩ := List.mem_map.mp hr
            have h4 := f4 y hy
            by_cases c : qv (K i).1 ≤ qv y
            · right; exact (cut_self (q := y) (x := qv (K i).2)).1 (by grind)
            · left
              have := (cut_self (q := y) (x := qv (K i).1)).2 (by grind)
              omega
          rw [z]
          unfold rc at f2
          rw [f2]; rfl
  · rw [List.length_append, List.length_map, List.length_map, htp.length_eq, List.length_append, List.length_map, a6]
  · have yy : ys.Nodup := by
      have := (List.nodup_append.mp hnd).1
      exact (List.pairwise_map.mp this).imp fun {a b} h e => h (by rw [e])
    refine List.pairwise_append.mpr ⟨List.pairwise_map.mpr (yy.imp_of_mem fun {y z} hy hz hyz => ?_), List.pairwise_map.mpr (a8.imp_of_mem fun {i j} hi hj hij => ?_), fun p hp q hq => ?_⟩
    · have hne : qv y ≠ qv z := fun e => hyz (red_eq (a5 y hy).1 (a5 z hz).1 e)
      show (qv y ≤ qv z ∧ qv y < qv z) ∨ (qv z ≤ qv y ∧ qv z < qv y)
      by_cases c : qv y < qv z
      · exact .inl ⟨Rat.le_of_lt c, c⟩
      · exact .inr ⟨by grind, by grind⟩
    · have F := (hK i hi).2
      have G := (hK j hj).2
      have h1 := F.hi
      have h2 := G.lo
      left
      refine ⟨by grind, ?_⟩
      rcases G.it with ⟨g1, g2⟩ | ⟨g1, _⟩
      · have hne : qv (K j).1 ≠ qv j.1 := fun e => by
          have := cut_ne a3.lf (a7 j hj).n1 _ g2
          refine this ?_
          show sg (qv j.1 - qv (K j).1) = 0
          rw [e, Rat.sub_self]; rfl
        rw [← g1]; grind
      · grind
    · obtain ⟨y, hy, rfl⟩ := List.mem_map.mp hp
      obtain ⟨i, hi, rfl⟩ := List.mem_map.mp hq
      have F := (hK i hi).2
      show (qv y ≤ qv (K i).1 ∧ qv y < qv (K i).2) ∨ (qv (K i).2 ≤ qv y ∧ qv (K i).2 < qv y)
      rcases F.it with ⟨g1, g2⟩ | ⟨g1, _, _, g4⟩
      · have hne : qv y ≠ qv (K i).1 := fun e => hyn y hy (by rw [red_eq (a5 y hy).1 F.r1 e]; exact g2)
        rw [← g1]
        by_cases c : qv y < qv (K i).1
        · exact .inl ⟨Rat.le_of_lt c, c⟩
        · exact .inr ⟨by grind, by grind⟩
      · have := g4 y hy
        by_cases c : qv y < qv (K i).1
        · exact .inl ⟨Rat.le_of_lt c, by grind⟩
        · exact .inr ⟨by grind, by grind⟩
end Mine
end

section
open PySem PySem.W PyProof.Rows PySem.Calls
namespace Mine

theorem psGo_sm {b : List Int} {s : Nat} (sb : SmL s b) : ∀ (n : Nat) (rest found : List Int) (left : Int) (e : Nat), SmL e rest → ∃ k, k ≤ n ∧ (psGo b (lead b) n rest found left).2.2 = left - k ∧ SmL (e + k * (s + 1)) (psGo b (lead b) n rest found left).2.1
  | 0, rest, found, left, e, h => ⟨0, Nat.le_refl _, by simp [psGo], by simpa [psGo] using h⟩
  | n + 1, rest, found, left, e, h => by
    unfold psGo
    split
    · have s2 : SmL (e + s + 1) (zsub (zscale rest (lead b)) (zraise (zscale b (lead rest)) (rest.length - b.length))) := (h.zscale sb.lead).zsub (((sb.zscale h.lead).mono (by omega)).zraise)
      obtain ⟨k, k1, k2, k3⟩ := psGo_sm sb n _ (zsub (zscale found (lead b)) (zraise [-lead rest] (rest.length - b.length))) (left - 1) (e + s + 1) s2
      refine ⟨k + 1, by omega, by rw [k2]; omega, k3.mono ?_⟩
      rw [Nat.add_mul]; omega
    · exact ⟨0, by omega, by simp, by simpa using h⟩
theorem pow_sm {s : Nat} {a : Int} (h : Sm s a) : ∀ n : Nat, Sm (n * s + 1) (a ^ n)
  | 0 => by unfold Sm; simp
  | n + 1 => by
    rw [Int.pow_succ]
    refine (Sm.mul (pow_sm h n) h).mono ?_
    rw [Nat.add_mul]; omega
theorem psRest_sm {a b : List Int} {e s : Nat} (ha : SmL e a) (sb : SmL s b) : SmL (e + psMany a b * (s + 1) + 1) (psRest a b) := by
  obtain ⟨k, k1, k2, k3⟩ := psGo_sm sb (psMany a b) a [] (psMany a b) e ha
  unfold psRest psRun
  rw [k2, show ((psMany a b : Nat) : Int) - (k : Nat) = ((psMany a b - k : Nat) : Int) by omega, Int.toNat_natCast]
  refine (k3.zscale (pow_sm sb.lead (psMany a b - k))).mono ?_
  have e1 : psMany a b * (s + 1) = k * (s + 1) + (psMany a b - k) * (s + 1) := by rw [← Nat.add_mul]; congr 1; omega
  have e2 : (psMany a b - k) * s ≤ (psMany a b - k) * (s + 1) := Nat.mul_le_mul_left _ (by omega)
  omega
theorem less1_sm {n : Nat} {p : List Int} (h : SmL n p) : SmL n (less1 p) := by
  unfold less1
  split
  · rename_i hg
    intro c hc
    obtain ⟨d, hd, rfl⟩ := List.mem_map.mp hc
    have e := Int.mul_fdiv_cancel' (gcdAll_dvd p d hd)
    refine Sm.of_le (h d hd) ?_
    have e2 := congrArg Int.natAbs e
    rw [Int.natAbs_mul] at e2
    have : 1 ≤ (gcdAll p).natAbs := by omega
    have := Nat.mul_le_mul_right (d.fdiv (gcdAll p)).natAbs this
    omega
  · exact h
theorem nextRow_sm {a b : List Int} {e s : Nat} (ha : SmL e a) (sb : SmL s b) : SmL (e + psMany a b * (s + 1) + 1) (nextRow a b) := by
  have h := psRest_sm ha sb
  unfold nextRow
  split
  · exact less1_sm h
  · refine less1_sm fun c hc => ?_
    unfold zneg at hc
    obtain ⟨d, hd, rfl⟩ := List.mem_map.mp hc
    exact (h d hd).neg
noncomputable def gB : Nat → Nat
  | 6 => 26 | 5 => 67 | 4 => 170 | 3 => 428 | 2 => 1073 | 1 => 2686 | 0 => 6720 | _ => 26
theorem stOk_of : ∀ (n : Nat) (a b : List Int), b.length ≤ n → a.length ≤ 7 → b.length < a.length → SmL (gB (a.length - 1) / 2 - 1) a → SmL (gB (a.length - 1) - 1) b → StOk n a b
  | 0, a, b, h1, h2, h3, h4, h5 => List.length_eq_zero_iff.mp (by omega)
  | n + 1, a, b, h1, h2, h3, h4, h5 => by
    intro hb
    have hbl := List.length_pos_iff.mpr hb
    have hnl := nextRow_len (a := a) hb
    have key : ∀ p : Nat, p < 8 → ∀ q : Nat, q < p → 1 ≤ q → gB (p - 1) / 2 - 1 + (p + 1 - q) * (gB (p - 1) - 1 + 1) + 1 ≤ gB (q - 1) - 1 ∧ gB (p - 1) - 1 ≤ gB (q - 1) / 2 - 1 ∧ gB (p - 1) / 2 - 1 ≤ 8000 ∧ gB (p - 1) - 1 ≤ 8000 ∧
      gB (p - 1) / 2 - 1 + (p + 1 - q) * (gB (p - 1) - 1 + 1) + 1 ≤ 8900 ∧ p + 1 - q ≤ 8 := by decide +kernel
    have k := key a.length (Nat.lt_succ_of_le h2) b.length h3 hbl
    exact ⟨Nat.le_succ_of_le h2, h3, k.2.2.2.2.2, h4.mono k.2.2.1, h5.mono k.2.2.2.1, (psRest_sm h4 h5).mono k.2.2.2.2.1,
      stOk_of n b (nextRow a b) (Nat.le_of_lt_succ (Nat.lt_of_lt_of_le hnl h1)) (Nat.le_trans (Nat.le_of_lt h3) h2) hnl (h5.mono k.2.1) ((nextRow_sm h4 h5).mono k.1)⟩
theorem rowOk_of {S : List Fa} {h : List Int} (L : Lf3 S h) : RowOk h := by
  obtain ⟨s1, s2, s3⟩ := L.size
  have hl := List.length_pos_iff.mpr L.ne
  have hz : SmL 14 (zder h) := by
    refine SmL.of_getD fun j => ?_
    rw [zder_getD]
    by_cases hj : j + 1 < h.length
    · have h3 : Sm 3 ((j + 1 : Nat) : Int) := by unfold Sm; omega
      exact ((s3.getD (j + 1)).mul h3)
    · rw [getD_zero_of_le (by omega), Int.zero_mul]; exact Sm.zero
  refine ⟨by omega, s3.mono (by decide), stOk_of _ _ _ (by rw [zder_len]; omega) s1 (by rw [zder_len]; omega) (s3.mono ?_) (hz.mono ?_)⟩
  · have key : ∀ p : Nat, p < 8 → 1 ≤ p → 11 ≤ gB (p - 1) / 2 - 1 := by decide +kernel
    exact key _ (by omega) hl
  · have key : ∀ p : Nat, p < 8 → 1 ≤ p → 14 ≤ gB (p - 1) - 1 := by decide +kernel
    exact key _ (by omega) hl
end Mine
end

section
open PySem PySem.W PyProof.Rows PySem.Calls
namespace Mine

theorem faS_in {form : Int} (h0 : 0 ≤ form) (st : DS) : FaIn (faS form st).1 ∧ (form < 2 → ∃ q, (faS form st).1 = .lin q) := by
  unfold faS
  split
  · have h1 := takeS_range (many := 3) (by decide) st
    have h2 := takeS_range (many := 9) (by decide) (takeS 3 st).2
    have key : ∀ t ∈ ([-4, -3, -2, -1, 0, 1, 2, 3, 4] : List Int), ∀ b ∈ ([1, 2, 3] : List Int), redS t b ∈ LQ := by decide +kernel
    exact ⟨key _ (by simp; omega) _ (by simp; omega), fun _ => ⟨_, rfl⟩⟩
  · rename_i hf
    split
    · have h1 := takeS_range (many := 5) (by decide) st
      refine ⟨?_, fun e => absurd e hf⟩
      show ([2, 3, 5, 6, 7] : List Int).getD (takeS 5 st).1.toNat 0 ∈ LK
      generalize (takeS 5 st).1 = i at h1
      have : i = 0 ∨ i = 1 ∨ i = 2 ∨ i = 3 ∨ i = 4 := by omega
      rcases this with rfl | rfl | rfl | rfl | rfl <;> decide
    · have h1 := takeS_range (many := 3) (by decide) st
      have h2 := takeS_range (many := 3) (by decide) (takeS 3 st).2
      exact ⟨⟨by omega, by omega, by omega, by omega⟩, fun e => absurd e hf⟩
noncomputable def TurnIn (fb : Fa × Bool) : Prop := FaIn fb.1 ∧ (fb.2 = true → ∃ q, fb.1 = .lin q)
theorem turnS_in (st : DS) : TurnIn (turnS st).1 := by
  obtain ⟨h1, h2⟩ := faS_in (takeS_range (many := 4) (by decide) st).1 (takeS 4 st).2
  refine ⟨h1, fun e => h2 ?_⟩
  unfold turnS at e
  simp only [Bool.and_eq_true, decide_eq_true_eq] at e
  exact e.2
theorem turnsS_in : ∀ (n : Nat) (st : DS), ∀ fb ∈ (turnsS n st).1, TurnIn fb
  | 0, st => fun _ h => nomatch h
  | n + 1, st => fun fb hfb => by
    rcases List.mem_append.mp hfb with h | h
    · exact turnsS_in n st fb h
    · rw [List.mem_singleton.mp h]; exact turnS_in _
theorem madeS_in (st : DS) : ∀ fb ∈ (madeS st).1.2, TurnIn fb := turnsS_in _ _
theorem query_red {q : Int × Int} (h : Query q) : Red q := by
  obtain ⟨t, b, h1, h2, h3, h4, rfl⟩ := h
  have key : ∀ t ∈ (List.range 21).map (fun i : Nat => (i : Int) - 10), ∀ b ∈ ([1, 2, 3, 4, 5, 6] : List Int), 0 < (lowest t b).2 ∧ Int.gcd (lowest t b).1 (lowest t b).2 = 1 := by decide +kernel
  exact key t (List.mem_map.mpr ⟨(t + 10).toNat, by simp; omega, by omega⟩) b (by simp; omega)
theorem query_field {S : List Fa} {g : List Int} {told : List Rt} (L : Lf S g) (HT : Told told) (hm : told.Perm (rootsL S)) {p q : Int × Int} (hp : Query p) (hq : Query q) :
    countRow (sturm g) (.fin (if ratLess p q = true then p else q)) (.fin (if ratLess p q = true then q else p)) = counted told (if ratLess p q = true then p else q) (if ratLess p q = true then q else p) ∧
    countRow (sturm g) .neg (.fin (if ratLess p q = true then q else p)) + countRow (sturm g) (.fin (if ratLess p q = true then q else p)) .pos = told.length := by
  have rp := query_red hp
  have rq := query_red hq
  have tele : ∀ x : Pt, countRow (sturm g) .neg x + countRow (sturm g) x .pos = told.length := fun x => by
    have h := count_far L.known (rootsL_in L.ins)
    rw [hm.length_eq, ← h]; unfold countRow; omega
  have main : ∀ a b : Int × Int, Red a → Red b → qv a ≤ qv b → countRow (sturm g) (.fin a) (.fin b) = counted told a b := fun a b ha hb hab => by
    rw [count_fin L.known ha.1 hb.1 hab, counted_cnt HT.1 ha hb, cnt_perm (hm.map cut)]
  refine ⟨?_, tele _⟩
  by_cases h : ratLess p q = true
  · rw [if_pos h, if_pos h]
    exact main p q rp rq (Rat.le_of_lt ((ratLess_iff rp.1 rq.1).mp h))
  · rw [if_neg h, if_neg h]
    refine main q p rq rp ?_
    have : ¬ qv p < qv q := fun c => h ((ratLess_iff rp.1 rq.1).mpr c)
    grind
end Mine
end

section
open PySem PySem.W PyProof.Rows PySem.Calls
namespace Mine

theorem uniq (l : List Fa) : ∃ S : List Fa, S.Nodup ∧ (∀ x, x ∈ S ↔ x ∈ l) ∧ S.length ≤ l.length := by
  induction l with
  | nil => exact ⟨[], List.nodup_nil, fun x => by simp, Nat.le_refl _⟩
  | cons a l ih =>
    obtain ⟨S, h1, h2, h3⟩ := ih
    by_cases ha : a ∈ S
    · refine ⟨S, h1, fun x => ?_, by rw [List.length_cons]; omega⟩
      rw [h2, List.mem_cons]
      constructor
      · exact .inr
      · rintro (rfl | h)
        · exact (h2 _).mp ha
        · exact h
    · refine ⟨a :: S, List.nodup_cons.mpr ⟨ha, h1⟩, fun x => by rw [List.mem_cons, List.mem_cons, h2], by rw [List.length_cons, List.length_cons]; omega⟩
theorem told_perm {fs : List (Fa × Bool)} (hf : ∀ fb ∈ fs, FaIn fb.1) {S : List Fa} (hN : S.Nodup) (hS : ∀ x, x ∈ S ↔ x ∈ fs.map (·.1)) : Told (rootsOf fs) ∧ (rootsOf fs).Perm (rootsL S) := by
  obtain ⟨h1, h2⟩ := rootsOf_told hf
  refine ⟨h1, (List.perm_ext_iff_of_nodup (told_nodup h1) (rootsL_nodup hN)).mpr fun r => ?_⟩
  rw [h2]
  unfold rootsL
  rw [List.mem_flatMap]
  constructor
  · rintro ⟨fb, a, b⟩
    exact ⟨fb.1, (hS _).mpr (List.mem_map_of_mem a), b⟩
  · rintro ⟨fa, a, b⟩
    obtain ⟨fb, c, rfl⟩ := List.mem_map.mp ((hS _).mp a)
    exact ⟨fb, c, b⟩
noncomputable def evF (fb : Fa × Bool) (x : Rat) : Rat := if fb.2 = true then ev (facS fb.1) x * ev (facS fb.1) x else ev (facS fb.1) x
theorem ev_polyOf (c : Int) (fs : List (Fa × Bool)) (x : Rat) : ev (polyOf c fs) x = (c : Rat) * (fs.map fun fb => evF fb x).foldr (· * ·) 1 := by
  have key : ∀ (fs : List (Fa × Bool)) (p : List Int), ev (fs.foldl mulFa p) x = ev p x * (fs.map fun fb => evF fb x).foldr (· * ·) 1 := by
    intro fs
    induction fs with
    | nil => intro p; simp
    | cons fb fs ih =>
      intro p
      rw [List.foldl_cons, ih, List.map_cons, List.foldr_cons]
      unfold mulFa evF
      split
      · rw [ev_mulS, ev_mulS]; grind
      · rw [ev_mulS]; grind
  unfold polyOf
  rw [key]
  have : ev [c] x = (c : Rat) := by simp [ev]; grind
  rw [this]
end Mine
end

section
open PySem PySem.W PyProof.Rows PySem.Calls
namespace Mine

theorem list_ext {a b : List Int} (hl : a.length = b.length) (h : ∀ i, a.getD i 0 = b.getD i 0) : a = b := by
  refine List.ext_getElem hl fun i h1 h2 => ?_
  have := h i
  rw [List.getD_eq_getElem?_getD, List.getD_eq_getElem?_getD, List.getElem?_eq_getElem h1, List.getElem?_eq_getElem h2] at this
  exact this
theorem mulS_eq {a b : List Int} (ha : a ≠ []) (hb : b ≠ []) : mulS a b = pmul a b :=
  list_ext (by rw [mulS_len ha hb, (pmul_lead a b ha hb).1]) (ev_inj fun x => by rw [ev_mulS, (ev_pmul a b x).1])
theorem tr_mul {a b : List Int} (ha : a ≠ []) (hb : b ≠ []) (ta : Tr a) (tb : Tr b) : pmul a b ≠ [] ∧ Tr (pmul a b) := by
  obtain ⟨h1, h2⟩ := pmul_lead a b ha hb
  have l1 := List.length_pos_iff.mpr ha
  have l2 := List.length_pos_iff.mpr hb
  exact ⟨fun e => by rw [e] at h1; simp at h1; omega, fun _ => by rw [h2]; exact Int.mul_ne_zero (ta ha) (tb hb)⟩
theorem fac_ne {fa : Fa} : facS fa ≠ [] := by cases fa <;> simp [facS]
theorem tr_polyOf {c : Int} (hc : c ≠ 0) {fs : List (Fa × Bool)} (hf : ∀ fb ∈ fs, FaIn fb.1) : polyOf c fs ≠ [] ∧ Tr (polyOf c fs) := by
  have key : ∀ (fs : List (Fa × Bool)) (p : List Int), (∀ fb ∈ fs, FaIn fb.1) → p ≠ [] → Tr p → fs.foldl mulFa p ≠ [] ∧ Tr (fs.foldl mulFa p) := by
    intro fs
    induction fs with
    | nil => intro p _ h1 h2; exact ⟨h1, h2⟩
    | cons fb fs ih =>
      intro p h h1 h2
      have t := (fac_norm (h fb (.head _))).2.2.2
      obtain ⟨a1, a2⟩ := tr_mul h1 fac_ne h2 t
      have b := tr_mul a1 fac_ne a2 t
      rw [List.foldl_cons]
      refine ih _ (fun g hg => h g (.tail _ hg)) ?_ ?_
      · unfold mulFa; split
        · rw [mulS_eq h1 fac_ne, mulS_eq a1 fac_ne]; exact b.1
        · rw [mulS_eq h1 fac_ne]; exact a1
      · unfold mulFa; split
        · rw [mulS_eq h1 fac_ne, mulS_eq a1 fac_ne]; exact b.2
        · rw [mulS_eq h1 fac_ne]; exact a2
  exact key fs [c] hf (by simp) (fun _ => by simpa [lead] using hc)
noncomputable def expand (fs : List (Fa × Bool)) : List Fa := fs.flatMap fun fb => if fb.2 = true then [fb.1, fb.1] else [fb.1]
theorem ev_expand (fs : List (Fa × Bool)) (x : Rat) : ev (prodL ((expand fs).map facS)) x = (fs.map fun fb => evF fb x).foldr (· * ·) 1 := by
  induction fs with
  | nil => simp [expand, prodL, ev]; grind
  | cons fb fs ih =>
    have e : expand (fb :: fs) = (if fb.2 = true then [fb.1, fb.1] else [fb.1]) ++ expand fs := by unfold expand; rw [List.flatMap_cons]
    rw [e, List.map_cons, List.foldr_cons, ← ih]
    unfold evF
    split
    · show ev (pmul (facS fb.1) (pmul (facS fb.1) (prodL ((expand fs).map facS)))) x = _
      rw [(ev_pmul _ _ x).1, (ev_pmul _ _ x).1]; grind
    · exact (ev_pmul _ _ x).1
theorem polyOf_eq {c : Int} (hc : c ≠ 0) {fs : List (Fa × Bool)} (hf : ∀ fb ∈ fs, FaIn fb.1) : polyOf c fs = (prodL ((expand fs).map facS)).map (c * ·) := by
  have he : ∀ fa ∈ expand fs, FaIn fa := fun fa hfa => by
    obtain ⟨fb, h1, h2⟩ := List.mem_flatMap.mp hfa
    have : fa = fb.1 := by split at h2 <;> simpa using h2
    rw [this]; exact hf fb h1
  obtain ⟨p1, p2, p3, p4, p5⟩ := prodL_facts he
  exact tr_ev (tr_polyOf hc hf).2 (tr_map (by simp) p3 (fun d _ hd => Int.mul_ne_zero hc hd)) (fun x => by rw [ev_polyOf, (ev_map c _ x).1, ev_expand])
end Mine
end

section
open PySem PySem.W PyProof.Rows PySem.Calls
namespace Mine

theorem fdiv_mul {c x d : Int} (hc : c ≠ 0) (hd : d ∣ x) (hd0 : d ≠ 0) : (c * x).fdiv (c * d) = x.fdiv d := by
  obtain ⟨y, rfl⟩ := hd
  rw [← Int.mul_assoc, Int.mul_fdiv_cancel_left _ (Int.mul_ne_zero hc hd0), Int.mul_fdiv_cancel_left _ hd0]
theorem gcdAll_mul (c : Int) (p : List Int) : gcdAll (p.map (c * ·)) = (c.natAbs : Int) * gcdAll p := by
  unfold gcdAll
  have key : ∀ (p : List Int) (g : Int), (p.map (c * ·)).foldl gcdI ((c.natAbs : Int) * g) = (c.natAbs : Int) * p.foldl gcdI g := by
    intro p
    induction p with
    | nil => intro g; rfl
    | cons d p ih =>
      intro g
      rw [List.map_cons, List.foldl_cons, List.foldl_cons, ← ih]
      congr 1
      unfold gcdI
      have h : Int.gcd ((c.natAbs : Int) * g) (c * d) = c.natAbs * Int.gcd g d := by
        show Nat.gcd _ _ = _
        rw [Int.natAbs_mul, Int.natAbs_mul, Int.natAbs_natCast, Nat.gcd_mul_left]; rfl
      rw [h]; simp
  have := key p 0
  rwa [Int.mul_zero] at this
theorem gcdAll_pos {p : List Int} (h : p ≠ []) (ht : Tr p) : 0 < gcdAll p := by
  have h1 := gcdAll_dvd p _ (lead_mem h)
  have h2 : gcdAll p ≠ 0 := fun e => by rw [e] at h1; exact ht h (Int.zero_dvd.mp h1)
  have h3 : 0 ≤ gcdAll p := by
    unfold gcdAll
    have : ∀ (l : List Int) (g : Int), 0 ≤ g → 0 ≤ l.foldl gcdI g := by
      intro l
      induction l with
      | nil => intro g hg; exact hg
      | cons d l ih => intro g _; exact ih _ (gcdI_nonneg _ _)
    exact this p 0 (Int.le_refl _)
  omega
theorem lead_map (c : Int) (p : List Int) : lead (p.map (c * ·)) = c * lead p := by
  unfold lead; rw [List.length_map, map_getD (c * ·) (by simp)]
theorem zprim_mul {c : Int} (hc : c ≠ 0) {p : List Int} (h : p ≠ []) (ht : Tr p) : zprim (p.map (c * ·)) = zprim p := by
  have hg := gcdAll_pos h ht
  have hl := ht h
  have hd : ∀ d : Int, (d = gcdAll p ∨ d = -gcdAll p) → (p.map (c * ·)).map (·.fdiv (c * d)) = p.map (·.fdiv d) := fun d hd => by
    rw [List.map_map]
    refine List.map_congr_left fun x hx => ?_
    refine fdiv_mul hc ?_ (by omega)
    rcases hd with rfl | rfl
    · exact gcdAll_dvd p x hx
    · exact Int.neg_dvd.mpr (gcdAll_dvd p x hx)
  unfold zprim
  rw [if_neg (by simpa using h), if_neg h, lead_map, gcdAll_mul]
  unfold zdivided
  by_cases h1 : lead p > 0
  · rw [if_pos h1, ← hd _ (.inl rfl)]
    by_cases h2 : c > 0
    · rw [if_pos (Int.mul_pos h2 h1)]; congr 2; funext x; congr 2; omega
    · rw [if_neg (by have := Int.mul_neg_of_neg_of_pos (show c < 0 by omega) h1; omega)]; congr 2; funext x; congr 1
      rw [show ((c.natAbs : Int)) = -c by omega, Int.neg_mul, Int.neg_neg]
  · rw [if_neg h1, ← hd _ (.inr rfl)]
    by_cases h2 : c > 0
    · rw [if_neg (by have := Int.mul_neg_of_pos_of_neg h2 (show lead p < 0 by omega); omega)]; congr 2; funext x; congr 1
      rw [show ((c.natAbs : Int)) = c by omega, Int.mul_neg]
    · rw [if_pos (Int.mul_pos_of_neg_of_neg (by omega) (by omega))]; congr 2; funext x; congr 1
      rw [show ((c.natAbs : Int)) = -c by omega, Int.neg_mul, Int.mul_neg]
end Mine
end

section
open PySem PySem.W PyProof.Rows PySem.Calls
namespace Mine

theorem zder_map (c : Int) (p : List Int) : zder (p.map (c * ·)) = (zder p).map (c * ·) :=
  list_ext (by rw [zder_len, List.length_map, List.length_map, zder_len]) (fun i => by
    rw [zder_getD, map_getD (c * ·) (by simp), map_getD (c * ·) (by simp), zder_getD, Int.mul_assoc])
theorem zprim_one {p : List Int} (h1 : gcdAll p = 1) (h2 : 0 < lead p) : zprim p = p := by
  unfold zprim
  split
  · rename_i h; exact h.symm
  · rw [h1]
    unfold zdivided
    conv => rhs; rw [← List.map_id p]
    exact List.map_congr_left fun x _ => by simp
theorem zgcd_mul {c : Int} (hc : c ≠ 0) {P : List Int} (h : 2 ≤ P.length) (ht : Tr P) (h1 : gcdAll P = 1) (h2 : 0 < lead P) :
    zgcd (P.map (c * ·)) (zder (P.map (c * ·))) = if ((subres P (zprim (zder P))).getLast?.getD []).length > 1 then zscale (zprim ((subres P (zprim (zder P))).getLast?.getD [])) c.natAbs else [(c.natAbs : Int)] := by
  have hP : P ≠ [] := fun e => by rw [e] at h; simp at h
  have hz : zder P ≠ [] := fun e => by have := zder_len P; rw [e] at this; simp at this; omega
  have number : gcdI (gcdAll (P.map (c * ·))) (gcdAll ((zder P).map (c * ·))) = (c.natAbs : Int) := by
    rw [gcdAll_mul, gcdAll_mul, h1, Int.mul_one]
    unfold gcdI
    have : Int.gcd ((c.natAbs : Nat) : Int) (((c.natAbs : Nat) : Int) * gcdAll (zder P)) = c.natAbs := by
      show Nat.gcd _ _ = _
      rw [Int.natAbs_mul, Int.natAbs_natCast]
      exact Nat.gcd_mul_right_right _ _
    rw [this]
  unfold zgcd
  simp only [zder_map, number, zprim_mul hc hP ht, zprim_mul hc hz (tr_zder ht), zprim_one h1 h2]
end Mine
end

section
open PySem PySem.W PyProof.Rows PySem.Calls
namespace Mine

noncomputable abbrev lastP (P : List Int) : List Int := (subres P (zprim (zder P))).getLast?.getD []
theorem simpleS_mul {c : Int} (hc : c ≠ 0) {P G H : List Int} (h : 2 ≤ P.length) (ht : Tr P) (h1 : gcdAll P = 1) (h2 : 0 < lead P) (hH : H = if (lastP P).length > 1 then zprim (lastP P) else [1]) (tH : Tr H) (nH : H ≠ []) (tG : Tr G)
    (hv : ∀ x, ev P x = ev H x * ev G x) : ∃ κ : Int, κ ≠ 0 ∧ κ.natAbs ≤ c.natAbs ∧ simpleS (P.map (c * ·)) = G.map (κ * ·) := by
  have hz := zgcd_mul hc h ht h1 h2
  have tf : Tr (P.map (c * ·)) := tr_map (by simp) ht (fun d _ hd => Int.mul_ne_zero hc hd)
  by_cases hl : (lastP P).length > 1
  · rw [if_pos hl] at hH
    have hz2 : zgcd (P.map (c * ·)) (zder (P.map (c * ·))) = zscale H c.natAbs := by
      rw [hz]; show (if (lastP P).length > 1 then _ else _) = _
      rw [if_pos hl, hH]
    have hlen : (zscale H (c.natAbs : Int)).length > 1 := by
      unfold zscale
      rw [if_neg (by omega), List.length_map, hH, zprim_len]; exact hl
    obtain ⟨s, s1, s2⟩ : ∃ s : Int, (s = 1 ∨ s = -1) ∧ c = (c.natAbs : Int) * s := by
      by_cases h0 : 0 < c
      · exact ⟨1, .inl rfl, by omega⟩
      · exact ⟨-1, .inr rfl, by omega⟩
    refine ⟨s, by omega, by omega, ?_⟩
    unfold simpleS
    rw [hz2, if_pos hlen]
    have tG' : Tr (G.map (s * ·)) := tr_map (by simp) tG (fun d _ hd => Int.mul_ne_zero (by omega) hd)
    rw [zexact_of tf (tr_zscale tH _) tG' (fun e => by rw [e] at hlen; simp at hlen) (fun x => ?_)]
    · rfl
    · rw [(ev_map c P x).1, ev_zscale, (ev_map s G x).1, hv]
      have : (c : Rat) = ((c.natAbs : Int) : Rat) * (s : Rat) := by rw [← Rat.intCast_mul, ← s2]
      rw [this]; grind
  · rw [if_neg hl] at hH
    have hz2 : zgcd (P.map (c * ·)) (zder (P.map (c * ·))) = [(c.natAbs : Int)] := by
      rw [hz]; show (if (lastP P).length > 1 then _ else _) = _
      rw [if_neg hl]
    refine ⟨c, hc, Nat.le_refl _, ?_⟩
    unfold simpleS
    rw [hz2, if_neg (by simp)]
    have e : P = G := tr_ev ht tG (fun x => by
      rw [hv, hH]
      have : ev [1] x = 1 := by simp [ev]; grind
      rw [this]; grind)
    rw [e]
end Mine
end

section
open PySem PySem.W PyProof.Rows PySem.Calls
namespace Mine

noncomputable def RunOk : Nat → List Int → List Int → Int → Int → List Int → Prop
  | 0, _, b, _, _, last => last = b
  | n + 1, a, b, front, height, last =>
    if b.length > 1 then SmL 300 a ∧ SmL 300 b ∧ Sm 300 front ∧ Sm 300 height ∧ front ≠ 0 ∧ height ≠ 0 ∧ a.length ≤ 8 ∧
      (if psRest a b = [] then last = b else RunOk n b (zdivided (psRest a b) (front * height ^ (a.length - b.length))) (lead b) (nextHeight (lead b) (a.length - b.length) height) last)
    else last = b
theorem RunOk.sub : ∀ (n : Nat) (a b : List Int) (front height : Int) (last : List Int), RunOk n a b front height last → SubOk n a b front height
  | 0, _, _, _, _, _, _ => trivial
  | n + 1, a, b, front, height, last, h => by
    intro hb
    unfold RunOk at h
    rw [if_pos hb] at h
    obtain ⟨h1, h2, h3, h4, h5, h6, h7, h8⟩ := h
    refine ⟨h1.mono (by omega), h2.mono (by omega), h3.mono (by omega), h4.mono (by omega), fun hr => ?_⟩
    rw [if_neg hr] at h8
    have pn : ∀ k : Nat, height ^ k ≠ 0 := fun k => by
      induction k with
      | zero => simp
      | succ k ih => rw [Int.pow_succ]; exact Int.mul_ne_zero ih h6
    have hk : a.length - b.length ≤ 8 := by omega
    refine ⟨Int.mul_ne_zero h5 (pn _), (h3.mul (pow_sm h4 _)).mono ?_, pn _, (pow_sm h4 _).mono ?_, RunOk.sub n _ _ _ _ last h8⟩
    · generalize a.length - b.length = k at hk ⊢; omega
    · generalize a.length - b.length = k at hk ⊢; omega
theorem RunOk.last : ∀ (n : Nat) (a b : List Int) (front height : Int) (last : List Int) (row : List (List Int)), RunOk n a b front height last → row.getLast? = some b → (subGo n a b row front height).getLast? = some last
  | 0, a, b, front, height, last, row, h, hr => by
    have h : last = b := h
    rw [h]; exact hr
  | n + 1, a, b, front, height, last, row, h, hr => by
    unfold RunOk at h
    unfold subGo
    by_cases hb : b.length > 1
    · rw [if_pos hb] at h ⊢
      obtain ⟨h1, h2, h3, h4, h5, h6, h7, h8⟩ := h
      by_cases h0 : psRest a b = []
      · rw [if_pos h0] at h8 ⊢
        rw [h8]; exact hr
      · rw [if_neg h0] at h8 ⊢
        exact RunOk.last n _ _ _ _ last _ h8 (by simp)
    · rw [if_neg hb] at h ⊢
      rw [h]; exact hr
theorem RunOk.lastOk {P last : List Int} (h : RunOk (zprim (zder P)).length P (zprim (zder P)) 1 1 last) : lastP P = last := by
  show (subres P (zprim (zder P))).getLast?.getD [] = last
  unfold subres
  rw [RunOk.last _ _ _ _ _ last [P, zprim (zder P)] h rfl]; rfl
end Mine
end

section
open PySem PySem.W PyProof.Rows PySem.Calls
namespace Mine

theorem zprim_sm {n : Nat} {p : List Int} (h : SmL n p) : SmL (n + 1) (zprim p) := by
  unfold zprim
  split
  · exact fun _ h => nomatch h
  · intro c hc
    unfold zdivided at hc
    obtain ⟨d, hd, rfl⟩ := List.mem_map.mp hc
    exact (h d hd).fdiv
theorem simpleOk_of {c : Int} (hc : c ≠ 0) (hc3 : c.natAbs ≤ 3) {P last : List Int} (h : 2 ≤ P.length) (h7 : P.length ≤ 7) (ht : Tr P) (hs : SmL 20 P) (h1 : gcdAll P = 1) (h2 : 0 < lead P) (run : RunOk (zprim (zder P)).length P (zprim (zder P)) 1 1 last)
    {G : List Int} (tG : Tr G) (hv : last.length > 1 → ∀ x, ev P x = ev (zprim last) x * ev G x) (ll : last.length ≤ 8) (ls : SmL 300 last) (lt : Tr last) (ln : last ≠ []) : SimpleOk (P.map (c * ·)) := by
  have hP : P ≠ [] := fun e => by rw [e] at h; simp at h
  have hzl := zder_len P
  have hz : zder P ≠ [] := fun e => by rw [e] at hzl; simp at hzl; omega
  have tz := tr_zder ht
  have c2 : Sm 2 c := by unfold Sm; omega
  have sf : SmL 22 (P.map (c * ·)) := fun x hx => by
    obtain ⟨d, hd, rfl⟩ := List.mem_map.mp hx
    exact (c2.mul (hs d hd)).mono (by omega)
  have sz : SmL 25 (zder (P.map (c * ·))) := by
    refine SmL.of_getD fun j => ?_
    rw [zder_getD]
    by_cases hj : j + 1 < (P.map (c * ·)).length
    · rw [List.length_map] at hj
      have h3 : Sm 3 ((j + 1 : Nat) : Int) := by unfold Sm; omega
      exact (sf.getD (j + 1)).mul h3
    · rw [getD_zero_of_le (by omega), Int.zero_mul]; exact Sm.zero
  have e1 : zprim (P.map (c * ·)) = P := by rw [zprim_mul hc hP ht, zprim_one h1 h2]
  have e2 : zprim (zder (P.map (c * ·))) = zprim (zder P) := by rw [zder_map, zprim_mul hc hz tz]
  have el : lastOf (P.map (c * ·)) (zder (P.map (c * ·))) = last := by
    unfold lastOf; rw [e1, e2]; exact run.lastOk
  have ez : zgcd (P.map (c * ·)) (zder (P.map (c * ·))) = if last.length > 1 then zscale (zprim last) c.natAbs else [(c.natAbs : Int)] := by
    have h := zgcd_mul hc h ht h1 h2
    have hl := run.lastOk
    unfold lastP at hl
    rw [hl] at h; exact h
  have hcn : (c.natAbs : Int) ≠ 0 := by omega
  have gl := gcdAll_pos ln lt
  have zz : zgcd (P.map (c * ·)) (zder (P.map (c * ·))) ≠ [] ∧ (zgcd (P.map (c * ·)) (zder (P.map (c * ·)))).length ≤ 8 ∧ SmL 310 (zgcd (P.map (c * ·)) (zder (P.map (c * ·)))) ∧ Tr (zgcd (P.map (c * ·)) (zder (P.map (c * ·)))) := by
    have cs : Sm 2 ((c.natAbs : Nat) : Int) := by unfold Sm; omega
    have tp : Tr (zprim last) := by
      unfold zprim
      rw [if_neg ln]
      unfold zdivided
      split
      · exact tr_fdiv lt (gcdAll_dvd last)
      · exact tr_fdiv lt (fun x hx => Int.neg_dvd.mpr (gcdAll_dvd last x hx))
    rw [ez]
    split
    · rename_i hl
      refine ⟨fun e => ?_, ?_, ((zprim_sm ls).zscale cs).mono (by omega), tr_zscale tp _⟩
      · have := congrArg List.length e
        unfold zscale at this
        rw [if_neg hcn, List.length_map, zprim_len] at this
        rw [this] at hl; simp at hl
      · have := zscale_len (zprim last) (c.natAbs : Int)
        rw [zprim_len] at this; omega
    · exact ⟨by simp, by simp, fun x hx => by rw [List.mem_singleton.mp hx]; exact cs.mono (by omega), fun _ => by simpa [lead] using hcn⟩
  have tf : Tr (P.map (c * ·)) := tr_map (by simp) ht (fun d _ hd => Int.mul_ne_zero hc hd)
  have nf : P.map (c * ·) ≠ [] := by simpa using hP
  have nzf : zder (P.map (c * ·)) ≠ [] := by rw [zder_map]; simpa using hz
  refine ⟨⟨by rw [List.length_map]; omega, by rw [zder_len, List.length_map]; omega, nzf, sf.mono (by omega), sz.mono (by omega), ?_, ?_, ?_, by rw [el]; exact ll, by rw [el]; exact ls.mono (by omega), fun _ => by rw [el]; omega⟩, zz.2.1, zz.2.2.1.mono (by omega), sf.mono (by omega), fun _ => zz.2.2.2 zz.1, fun hl => ?_⟩
  · have := gcdAll_pos nf tf; omega
  · have := gcdAll_pos nzf (tr_zder tf); omega
  · rw [e1, e2]; exact run.sub
  · obtain ⟨s, s1, s2⟩ : ∃ s : Int, (s = 1 ∨ s = -1) ∧ c = (c.natAbs : Int) * s := by
      by_cases h0 : 0 < c
      · exact ⟨1, .inl rfl, by omega⟩
      · exact ⟨-1, .inr rfl, by omega⟩
    have hll : last.length > 1 := by
      rw [ez] at hl
      by_cases e : last.length > 1
      · exact e
      · rw [if_neg e] at hl; simp at hl
    have tG' : Tr (G.map (s * ·)) := tr_map (by simp) tG (fun d _ hd => Int.mul_ne_zero (by omega) hd)
    rw [zexact_of tf zz.2.2.2 tG' zz.1 (fun x => ?_)]
    · rfl
    · rw [ez, if_pos hll, (ev_map c P x).1, ev_zscale, (ev_map s G x).1, hv hll]
      have : (c : Rat) = ((c.natAbs : Int) : Rat) * (s : Rat) := by rw [← Rat.intCast_mul, ← s2]
      rw [this]; grind
end Mine
end

section
open PySem PySem.W PyProof.Rows PySem.Calls
namespace Mine

noncomputable def fo (n : Nat) (f : Nat → Bool) : Bool := @Nat.rec (fun _ => Bool) (f 0) (fun m _ => f (Nat.succ m)) n
theorem fo_eq (n : Nat) (f : Nat → Bool) : fo n f = f n := by cases n <;> rfl
noncomputable def iff' (b t e : Bool) : Bool := @Bool.rec (fun _ => Bool) e t b
theorem iff'_eq (b t e : Bool) : iff' b t e = if b = true then t else e := by cases b <;> rfl
noncomputable def ifn (b : Bool) (t e : Nat) : Nat := @Bool.rec (fun _ => Nat) e t b
theorem ifn_eq (b : Bool) (t e : Nat) : ifn b t e = if b = true then t else e := by cases b <;> rfl
noncomputable def lenN (X n C2 : Nat) (k : Nat → Bool) : Bool :=
  @Nat.rec (fun _ => Bool) (k 0) (fun m ih => iff' (Nat.ble (Nat.pow X m) C2) (k (Nat.succ m)) ih) n
noncomputable def chainN (X off mask : Nat) (fin : Nat → Nat → Bool) (n : Nat) : Nat → Nat → Nat → Nat → Nat → Nat → Bool :=
  @Nat.rec (fun _ => Nat → Nat → Nat → Nat → Nat → Nat → Bool) (fun _ _ B lb _ _ => fin B lb)
    (fun _ ih A la B lb fr h =>
      iff' (Nat.ble lb 1) (fin B lb)
        (fo (Nat.pow X (Nat.sub lb 1)) fun Q =>
        fo (Nat.div (Nat.add (Nat.add B B) Q) (Nat.add Q Q)) fun b =>
        fo (Nat.sub la lb) fun dl =>
        fo (Nat.mul fr (Nat.pow h dl)) fun D =>
        iff' (Nat.ble D (Nat.pow 2 298))
          (fo (Nat.mod (Nat.mul (Nat.pow b (Nat.succ dl)) A) B) fun rho =>
          fo (ifn (Nat.ble (Nat.add rho rho) B) rho (Nat.sub B rho)) fun R =>
          iff' (Nat.beq R 0) (fin B lb)
            (fo (Nat.div R D) fun C =>
            iff' (Nat.beq (Nat.mul C D) R)
              (iff' (Nat.beq (Nat.land (Nat.add C off) mask) 0)
                (fo (Nat.pow h (Nat.sub dl 1)) fun hp =>
                fo (Nat.pow b dl) fun bp =>
                fo (Nat.div bp hp) fun hn =>
                iff' (Nat.beq (Nat.mul hn hp) bp)
                  (lenN X (Nat.sub lb 1) (Nat.add C C) fun lc => ih B lb C lc b hn)
                  false)
                false)
              false))
          false)) n
noncomputable def ggN (X h : Nat) (n : Nat) : Nat → Nat → (Nat → Bool) → Bool :=
  @Nat.rec (fun _ => Nat → Nat → (Nat → Bool) → Bool) (fun _ g k => k g)
    (fun _ ih T g k => iff' (Nat.beq g 1) (k g) (fo (Nat.mod T X) fun v => fo (Nat.div T X) fun T' => fo (Nat.gcd g (Nat.add (Nat.sub v h) (Nat.sub h v))) fun g => ih T' g k)) n
noncomputable def finN (off mask A G : Nat) (L ll : Nat) : Bool :=
  iff' (Nat.ble ll 1) (Nat.beq A G)
    (fo (Nat.div A G) fun E =>
    iff' (Nat.beq (Nat.mul E G) A)
      (iff' (Nat.beq (Nat.land (Nat.add E off) mask) 0)
        (fo (Nat.div L E) fun g => iff' (Nat.beq (Nat.mul E g) L) (Nat.ble g (Nat.pow 2 298)) false) false) false)
noncomputable def chk (X off mask : Nat) (A D G : Nat) : Bool :=
  fo (Nat.add A off) fun T =>
  iff' (Nat.beq (Nat.land T mask) 0)
    (ggN X (Nat.pow 2 64) 7 T 0 fun g1 =>
      iff' (Nat.beq g1 1)
        (fo (Nat.add D off) fun U =>
        iff' (Nat.beq (Nat.land U mask) 0)
          (ggN X (Nat.pow 2 64) 7 U 0 fun g =>
            fo (Nat.div D g) fun B =>
            lenN X 7 (Nat.add A A) fun la =>
            fo (Nat.sub la 1) fun lb => chainN X off mask (finN off mask A G) lb A la B lb 1 1) false) false) false
noncomputable abbrev T3 := Nat × Nat × Nat
noncomputable def oX : Nat := 2 ^ 512
noncomputable def oOff : Nat := 2 ^ 64 * (1 + oX * (1 + oX * (1 + oX * (1 + oX * (1 + oX * (1 + oX))))))
noncomputable def oMask : Nat := (2 ^ 512 - 2 ^ 65) * (1 + oX * (1 + oX * (1 + oX * (1 + oX * (1 + oX * (1 + oX))))))
noncomputable def vI (X : Int) : List Int → Int
  | [] => 0
  | c :: l => c + X * vI X l
noncomputable def LOpt : List (Fa × Bool) := (LQ.flatMap fun q => [(.lin q, false), (.lin q, true)]) ++ (LK.map fun k => (.sq k, false)) ++
  (([1, 2, 3] : List Int).flatMap fun c => ([-1, 0, 1] : List Int).map fun d => (.no c d, false))
noncomputable def encO (X : Nat) (fb : Fa × Bool) : T3 :=
  ((vI X (facS fb.1)).toNat, (vI X (prodL ((expand [fb]).map facS))).toNat, (vI X (zder (prodL ((expand [fb]).map facS)))).toNat)
noncomputable def foL (l : List T3) : (List T3 → Bool) → Bool :=
  @List.rec T3 (fun _ => (List T3 → Bool) → Bool) (fun k => k []) (fun a _ ih k => fo a.1 fun x => fo a.2.1 fun y => fo a.2.2 fun z => ih fun t => k ((x, y, z) :: t)) l
noncomputable def allN (l : List T3) (p : Nat → Nat → Nat → Bool) : Bool :=
  @List.rec T3 (fun _ => Bool) true (fun a _ ih => iff' (p a.1 a.2.1 a.2.2) ih false) l
noncomputable def allT (m : Nat) : List T3 → (Nat → Nat → Nat → List T3 → Bool) → Bool :=
  @Nat.rec (fun _ => List T3 → (Nat → Nat → Nat → List T3 → Bool) → Bool) (fun _ _ => true)
    (fun _ ih l p => @List.rec T3 (fun _ => Bool) true (fun a t _ => iff' (p a.1 a.2.1 a.2.2 (a :: t)) (ih t p) false) l) m
noncomputable def run1 (X off mask : Nat) (f F F' m : Nat) (l : List T3) : Bool :=
  iff' (chk X off mask F F' f)
    (allT m l fun f2 G G' t =>
      fo (Nat.mul F G) fun P => fo (Nat.add (Nat.mul F G') (Nat.mul G F')) fun P' => fo (ifn (Nat.beq f f2) f (Nat.mul f f2)) fun g2 =>
      iff' (chk X off mask P P' g2)
        (allN t fun f3 H H' =>
          fo (Nat.mul P H) fun R => fo (Nat.add (Nat.mul P H') (Nat.mul H P')) fun R' =>
          fo (ifn (Nat.beq f f3) g2 (ifn (Nat.beq f2 f3) g2 (Nat.mul g2 f3))) fun g3 => chk X off mask R R' g3) false) false
noncomputable def runC (c : Nat × Nat × Nat) : Bool :=
  fo oX fun X => fo oOff fun off => fo oMask fun mask => foL (((LOpt.drop c.1).take 1 ++ LOpt.drop c.2.1).map (encO X)) fun l => @List.rec T3 (fun _ => Bool) true (fun a t _ => run1 X off mask a.1 a.2.1 a.2.2 c.2.2 t) l
noncomputable def chunks : List (List (Nat × Nat × Nat)) :=
  [[(0, 0, 52), (1, 1, 52)], [(2, 2, 52), (3, 3, 52)], [(4, 4, 52), (5, 5, 52)], [(6, 6, 52), (7, 7, 52)], [(8, 8, 8)], [(8, 16, 10)], [(8, 26, 52)], [(9, 9, 4)], [(9, 13, 4)], [(9, 17, 5)], [(9, 22, 6)], [(9, 28, 8)], [(9, 36, 52)],
   [(10, 10, 52), (11, 11, 52), (12, 12, 52), (13, 13, 52)], [(14, 14, 52), (15, 15, 52), (16, 16, 52), (17, 17, 52), (18, 18, 52)], (List.range 33).map fun i => (i + 19, i + 19, 52)]
end Mine
end

section
open PySem PySem.W PyProof.Rows PySem.Calls
namespace Mine

theorem vI_ev (X : Nat) (p : List Int) : ((vI (X : Int) p : Int) : Rat) = ev p (((X : Int)) : Rat) := by
  induction p with
  | nil => rfl
  | cons c l ih => rw [vI, ev, Rat.intCast_add, Rat.intCast_mul, ih]
theorem vI_ht (X : Int) (a : List Int) : vI X a = a.getD 0 0 + X * vI X a.tail := by
  cases a with
  | nil => simp [vI]
  | cons c l => simp [vI]
theorem vI_congr (X : Nat) {a b : List Int} (h : ∀ i, a.getD i 0 = b.getD i 0) : vI (X : Int) a = vI (X : Int) b := by
  apply Rat.intCast_inj.mp
  rw [vI_ev, vI_ev]; exact ev_congr h _
theorem vI_map (X c : Int) (p : List Int) : vI X (p.map (c * ·)) = c * vI X p := by
  induction p with
  | nil => simp [vI]
  | cons d l ih => rw [List.map_cons, vI, vI, ih]; grind
theorem smL_tail {w : Nat} {a : List Int} (h : SmL w a) : SmL w a.tail := fun c hc => h c (List.mem_of_mem_tail hc)
theorem pack_eq {X w : Nat} (hX : 8 * 2 ^ w ≤ X) {c d u v : Int} (hc : Sm w c) (hd : Sm w d) (h : c + (X : Int) * u = d + X * v) : u = v := by
  have e : (X : Int) * (v - u) = c - d := by rw [Int.mul_sub]; generalize (X : Int) * u = p at *; generalize (X : Int) * v = q at *; omega
  have e := congrArg Int.natAbs e
  rw [Int.natAbs_mul, Int.natAbs_natCast] at e
  have h1 := Int.natAbs_sub_le c d
  have h2 : c.natAbs + d.natAbs < X := Nat.lt_of_lt_of_le (Nat.add_lt_add hc hd) (Nat.le_trans (by generalize 2 ^ w = P; omega) hX)
  by_cases k : (v - u).natAbs = 0
  · exact (Int.sub_eq_zero.mp (Int.natAbs_eq_zero.mp k)).symm
  · exact absurd (Nat.lt_of_le_of_lt (Nat.le_mul_of_pos_right X (Nat.pos_of_ne_zero k)) (Nat.lt_of_le_of_lt (e ▸ h1) h2)) (Nat.lt_irrefl X)
theorem vI_inj {X w : Nat} (hX : 8 * 2 ^ w ≤ X) : ∀ (n : Nat) (a b : List Int), a.length ≤ n → b.length ≤ n → SmL w a → SmL w b → vI (X : Int) a = vI (X : Int) b → ∀ i, a.getD i 0 = b.getD i 0
  | 0, a, b, h1, h2, _, _, _, i => by
    rw [List.length_eq_zero_iff.mp (Nat.le_zero.mp h1), List.length_eq_zero_iff.mp (Nat.le_zero.mp h2)]
  | n + 1, a, b, h1, h2, sa, sb, h, i => by
    rw [vI_ht, vI_ht _ b] at h
    have c1 := sa.getD 0
    have c2 := sb.getD 0
    have key := pack_eq hX c1 c2 h
    rw [key] at h
    cases i with
    | zero => exact (Int.add_left_inj _).mp h
    | succ i =>
      rw [← tail_getD, ← tail_getD]
      exact vI_inj hX n a.tail b.tail (by rw [List.length_tail]; omega) (by rw [List.length_tail]; omega) (smL_tail sa) (smL_tail sb) key i
theorem vI_step {X w : Nat} (hX : 8 * 2 ^ w ≤ X) {c v : Int} {Q : Nat} (hc : Sm w c) (hv : 8 * v.natAbs < Q) : 8 * (c + X * v).natAbs < X * Q := by
  have h1 := Int.natAbs_add_le c (X * v)
  rw [Int.natAbs_mul, Int.natAbs_natCast] at h1
  unfold Sm at hc
  have h2 := Nat.mul_le_mul_left X (show 8 * v.natAbs + 1 ≤ Q by omega)
  rw [Nat.mul_add, show X * (8 * v.natAbs) = 8 * (X * v.natAbs) by rw [Nat.mul_left_comm]] at h2
  omega
theorem vI_bd {X w : Nat} (hX : 8 * 2 ^ w ≤ X) : ∀ {p : List Int}, SmL w p → 8 * (vI (X : Int) p).natAbs < X ^ p.length ∨ (p = [] ∧ vI (X : Int) p = 0)
  | [], _ => .inr ⟨rfl, rfl⟩
  | c :: l, h => by
    left
    have hc := h c (.head _)
    rw [vI, List.length_cons, Nat.pow_succ, Nat.mul_comm _ X]
    rcases vI_bd hX (p := l) (fun d hd => h d (.tail _ hd)) with e | ⟨rfl, e⟩
    · exact vI_step hX hc e
    · rw [e]; exact vI_step hX hc (by simp)
theorem vI_split {X w : Nat} (hX : 8 * 2 ^ w ≤ X) : ∀ {p : List Int}, SmL w p → p ≠ [] → ∃ low : Int, 8 * low.natAbs < X ^ (p.length - 1) ∧ vI (X : Int) p = low + ((X ^ (p.length - 1) : Nat) : Int) * lead p
  | [], _, h => absurd rfl h
  | [c], _, _ => ⟨0, by simp, by simp [vI, lead]⟩
  | c :: d :: l, h, _ => by
    obtain ⟨low, h1, h2⟩ := vI_split hX (p := d :: l) (fun e he => h e (.tail _ he)) (by simp)
    have hc := h c (.head _)
    have e1 : (c :: d :: l).length - 1 = (d :: l).length - 1 + 1 := by simp
    have e2 : lead (c :: d :: l) = lead (d :: l) := by simp [lead]
    refine ⟨c + X * low, ?_, ?_⟩
    · rw [e1, Nat.pow_succ, Nat.mul_comm _ X]; exact vI_step hX hc h1
    · rw [e1, e2, vI, h2, Nat.pow_succ]
      simp only [Int.natCast_mul]
      grind
theorem vI_facts {X w : Nat} (hX : 8 * 2 ^ w ≤ X) {p : List Int} (h : SmL w p) (hp : p ≠ []) (ht : Tr p) :
    ((vI (X : Int) p).natAbs + (vI (X : Int) p).natAbs + X ^ (p.length - 1)) / (X ^ (p.length - 1) + X ^ (p.length - 1)) = (lead p).natAbs ∧
    7 * X ^ (p.length - 1) < 8 * (vI (X : Int) p).natAbs ∧ 8 * (vI (X : Int) p).natAbs < X ^ p.length ∧ (0 < lead p ↔ 0 < vI (X : Int) p) := by
  obtain ⟨low, h1, h2⟩ := vI_split hX h hp
  have h3 := (vI_bd hX h).resolve_right (fun e => hp e.1)
  have hl := ht hp
  generalize X ^ (p.length - 1) = Q at *
  have hQ : 0 < Q := by omega
  have u1 : (vI (X : Int) p).natAbs ≤ low.natAbs + Q * (lead p).natAbs := by
    rw [h2]; have := Int.natAbs_add_le low (Q * lead p); rwa [Int.natAbs_mul, Int.natAbs_natCast] at this
  have u2 : Q * (lead p).natAbs ≤ (vI (X : Int) p).natAbs + low.natAbs := by
    have e : (Q : Int) * lead p = vI (X : Int) p + -low := by omega
    have := Int.natAbs_add_le (vI (X : Int) p) (-low)
    rwa [← e, Int.natAbs_mul, Int.natAbs_natCast, Int.natAbs_neg] at this
  have u3 := Nat.mul_le_mul_left Q (show 1 ≤ (lead p).natAbs by omega)
  refine ⟨?_, by omega, h3, ?_⟩
  · apply Nat.div_eq_of_lt_le
    · rw [Nat.mul_add, Nat.mul_comm _ Q]; omega
    · rw [Nat.add_mul, Nat.mul_add, Nat.mul_comm _ Q]; omega
  · constructor
    · intro hpos
      have := Int.mul_le_mul_of_nonneg_left (show (1 : Int) ≤ lead p by omega) (show (0 : Int) ≤ (Q : Int) by omega)
      rw [h2]; omega
    · intro hpos
      by_cases h0 : 0 < lead p
      · exact h0
      · have := Int.mul_le_mul_of_nonneg_left (show lead p ≤ -1 by omega) (show (0 : Int) ≤ (Q : Int) by omega)
        rw [h2] at hpos; omega
noncomputable def dgs (X h : Nat) : Nat → Nat → List Int
  | 0, _ => []
  | n + 1, T => (((T % X : Nat) : Int) - (h : Int)) :: dgs X h n (T / X)
noncomputable def ofn (X h : Nat) : Nat → Nat
  | 0 => 0
  | n + 1 => h + X * ofn X h n
theorem dgs_len (X h : Nat) : ∀ n T, (dgs X h n T).length = n
  | 0, _ => rfl
  | n + 1, T => by rw [dgs, List.length_cons, dgs_len]
theorem dgs_val {X : Nat} (hX : 0 < X) (h : Nat) : ∀ n T, T < X ^ n → vI (X : Int) (dgs X h n T) = (T : Int) - (ofn X h n : Nat)
  | 0, T, hT => by simp at hT; subst hT; rfl
  | n + 1, T, hT => by
    rw [dgs, vI, dgs_val hX h n (T / X) (Nat.div_lt_of_lt_mul (by rw [Nat.pow_succ, Nat.mul_comm] at hT; exact hT)), ofn]
    have e : ((T / X : Nat) : Int) * X + ((T % X : Nat) : Int) = (T : Int) := by
      rw [← Int.natCast_mul, ← Int.natCast_add, Nat.mul_comm, Nat.div_add_mod]
    simp only [Int.natCast_add, Int.natCast_mul] at *
    grind
theorem dgs_sm {k : Nat} (hk : 65 ≤ k) : ∀ n T, T &&& ofn (2 ^ k) (2 ^ k - 2 ^ 65) n = 0 → SmL 65 (dgs (2 ^ k) (2 ^ 64) n T)
  | 0, T, _ => fun _ h => nomatch h
  | n + 1, T, hT => by
    have hX : 0 < 2 ^ k := Nat.two_pow_pos k
    have e0 : 2 ^ k = 2 ^ 65 * 2 ^ (k - 65) := by rw [← Nat.pow_add]; congr 1; omega
    have p1 := Nat.two_pow_pos (k - 65)
    have hm : 2 ^ k - 2 ^ 65 < 2 ^ k := by omega
    have h1 := congrArg (· % 2 ^ k) hT
    have h2 := congrArg (· / 2 ^ k) hT
    simp only [Nat.and_mod_two_pow, Nat.and_div_two_pow, ofn, Nat.zero_mod, Nat.zero_div] at h1 h2
    rw [Nat.add_mul_mod_self_left, Nat.mod_eq_of_lt hm] at h1
    rw [Nat.add_mul_div_left _ _ hX, Nat.div_eq_of_lt hm, Nat.zero_add] at h2
    intro c hc
    rw [dgs] at hc
    rcases List.mem_cons.mp hc with rfl | hc
    · have h3 := congrArg (· / 2 ^ 65) h1
      simp only [Nat.and_div_two_pow, Nat.zero_div] at h3
      have e1 : (2 ^ k - 2 ^ 65) / 2 ^ 65 = 2 ^ (k - 65) - 1 := by
        rw [e0, show 2 ^ 65 * 2 ^ (k - 65) - 2 ^ 65 = 2 ^ 65 * (2 ^ (k - 65) - 1) by rw [Nat.mul_sub, Nat.mul_one], Nat.mul_div_cancel_left _ (by decide)]
      rw [e1, Nat.and_two_pow_sub_one_eq_mod, Nat.mod_eq_of_lt (by
        apply Nat.div_lt_of_lt_mul
        rw [← e0]; exact Nat.mod_lt _ hX)] at h3
      have h4 : T % 2 ^ k < 2 ^ 65 := by
        have := Nat.lt_of_div_eq_zero (by decide) h3
        exact this
      unfold Sm
      generalize T % 2 ^ k = v at h4
      omega
    · exact dgs_sm hk n _ h2 c hc
end Mine
end

section
local macro_rules | `(tactic| omega) => `(tactic| first | grind | omega (config := {}))
open PySem PySem.W PyProof.Rows PySem.Calls
namespace Mine

noncomputable def gg (X h : Nat) : Nat → Nat → Nat
  | 0, _ => 0
  | n + 1, T => Nat.gcd ((T % X - h) + (h - T % X)) (gg X h n (T / X))
theorem ggN_acc (X h : Nat) : ∀ n T g k, ggN X h n T g k = k (Nat.gcd g (gg X h n T))
  | 0, T, g, k => by
    have e : ggN X h 0 T g k = k g := rfl
    rw [e, gg, Nat.gcd_zero_right]
  | n + 1, T, g, k => by
    have e : ggN X h (n + 1) T g k = iff' (Nat.beq g 1) (k g) (fo (Nat.mod T X) fun v => fo (Nat.div T X) fun T' => fo (Nat.gcd g (Nat.add (Nat.sub v h) (Nat.sub h v))) fun g => ggN X h n T' g k) := rfl
    rw [e, iff'_eq, fo_eq, fo_eq, fo_eq]
    by_cases hg : g = 1
    · subst hg
      rw [if_pos (show Nat.beq 1 1 = true from rfl), Nat.gcd_one_left]
    · rw [if_neg (fun c => hg (Nat.eq_of_beq_eq_true c)), ggN_acc X h n, gg, Nat.gcd_assoc]
      rfl
theorem ggN_eq (X h : Nat) (n T : Nat) (k : Nat → Bool) : ggN X h n T 0 k = k (gg X h n T) := by rw [ggN_acc, Nat.gcd_zero_left]
theorem gg_spec (X h : Nat) : ∀ n T d, d ∣ gg X h n T ↔ ∀ c ∈ dgs X h n T, d ∣ c.natAbs
  | 0, T, d => by simp [gg, dgs]
  | n + 1, T, d => by
    rw [gg, Nat.dvd_gcd_iff, gg_spec X h n]
    have e : (((T % X : Nat) : Int) - (h : Int)).natAbs = (T % X - h) + (h - T % X) := by omega
    constructor
    · rintro ⟨h1, h2⟩ c hc
      rw [dgs] at hc
      rcases List.mem_cons.mp hc with rfl | hc
      · rw [e]; exact h1
      · exact h2 c hc
    · intro hh
      refine ⟨?_, fun c hc => hh c ?_⟩
      · rw [← e]; exact hh _ (by rw [dgs]; exact .head _)
      · rw [dgs]; exact .tail _ hc
theorem lenN_eq (X : Nat) (hX : 0 < X) (C2 L : Nat) (k : Nat → Bool) (hL : 1 ≤ L) (h1 : X ^ (L - 1) ≤ C2) (h2 : C2 < X ^ L) : ∀ n, L ≤ n → lenN X n C2 k = k L
  | 0, h => by omega
  | n + 1, h => by
    have e : lenN X (n + 1) C2 k = iff' (Nat.ble (Nat.pow X n) C2) (k (Nat.succ n)) (lenN X n C2 k) := rfl
    rw [e, iff'_eq]
    by_cases hn : L = n + 1
    · subst hn
      rw [if_pos (show (X.pow n).ble C2 = true from Nat.ble_eq.mpr h1)]
    · have := Nat.pow_le_pow_right hX (show L ≤ n by omega)
      rw [if_neg (fun hb => by have hb : X ^ n ≤ C2 := Nat.ble_eq.mp hb; omega)]
      exact lenN_eq X hX C2 L k hL h1 h2 n (by omega)
theorem near_a {Z W k R : Nat} (h : Z = k * W + R) (hr : 2 * R < W) : (if 2 * (Z % W) ≤ W then Z % W else W - Z % W) = R := by
  have e : Z % W = R := by rw [h, Nat.mul_comm, Nat.mul_add_mod]; exact Nat.mod_eq_of_lt (by omega)
  rw [e, if_pos (Nat.le_of_lt hr)]
theorem near_b {Z W k R : Nat} (h : Z + R = k * W) (hr : 2 * R < W) (h0 : 0 < R) : (if 2 * (Z % W) ≤ W then Z % W else W - Z % W) = R := by
  cases k with
  | zero => rw [Nat.zero_mul] at h; omega
  | succ k =>
    rw [Nat.succ_mul] at h
    have e : Z % W = W - R := by
      rw [show Z = W * k + (W - R) by rw [Nat.mul_comm]; omega, Nat.mul_add_mod]; exact Nat.mod_eq_of_lt (by omega)
    rw [e, if_neg (by omega)]; omega
theorem near_c {z m r : Int} (h : z = m + r) (hr : r.natAbs ≤ m.natAbs) : z.natAbs = m.natAbs + r.natAbs ∨ z.natAbs + r.natAbs = m.natAbs := by omega
theorem rem_near {z w q r : Int} (h : z = q * w + r) (hr : 2 * r.natAbs < w.natAbs) :
    (if 2 * (z.natAbs % w.natAbs) ≤ w.natAbs then z.natAbs % w.natAbs else w.natAbs - z.natAbs % w.natAbs) = r.natAbs := by
  by_cases hq : q = 0
  · rw [hq, Int.zero_mul, Int.zero_add] at h
    rw [h]
    exact near_a (k := 0) (by rw [Nat.zero_mul, Nat.zero_add]) hr
  · have h1 : w.natAbs ≤ (q * w).natAbs := by
      rw [Int.natAbs_mul]; exact Nat.le_mul_of_pos_left _ (Int.natAbs_pos.mpr hq)
    have hc := near_c h (Nat.le_trans (Nat.le_trans (Nat.le_mul_of_pos_left _ (by decide)) (Nat.le_of_lt hr)) h1)
    rw [Int.natAbs_mul] at hc
    rcases hc with e | e
    · exact near_a e hr
    · rcases Nat.eq_zero_or_pos r.natAbs with h0 | h0
      · exact near_a (k := q.natAbs) (by rw [← e, h0]; rfl) hr
      · exact near_b e hr h0
theorem psRest_packed {X : Nat} (hX : 8 * 2 ^ 500 ≤ X) {a b : List Int} (sa : SmL 65 a) (sb : SmL 65 b) (ta : Tr a) (tb : Tr b) (hb2 : 2 ≤ b.length) (hab : b.length < a.length) (h7 : a.length ≤ 7) :
    (if 2 * (((lead b).natAbs ^ (a.length + 1 - b.length) * (vI (X : Int) a).natAbs) % (vI (X : Int) b).natAbs) ≤ (vI (X : Int) b).natAbs
      then ((lead b).natAbs ^ (a.length + 1 - b.length) * (vI (X : Int) a).natAbs) % (vI (X : Int) b).natAbs
      else (vI (X : Int) b).natAbs - ((lead b).natAbs ^ (a.length + 1 - b.length) * (vI (X : Int) a).natAbs) % (vI (X : Int) b).natAbs) = (vI (X : Int) (psRest a b)).natAbs ∧
    SmL 500 (psRest a b) ∧ (psRest a b).length < b.length ∧ Tr (psRest a b) := by
  have hps : psMany a b = a.length + 1 - b.length := rfl
  have hb : b ≠ [] := fun e => by rw [e] at hb2; simp at hb2
  have sr : SmL 500 (psRest a b) := (psRest_sm sa sb).mono (by
    rw [hps]
    have : (a.length + 1 - b.length) * (65 + 1) ≤ 6 * (65 + 1) := Nat.mul_le_mul_right _ (by omega)
    omega)
  have lr : (psRest a b).length < b.length := psRest_len hb
  refine ⟨?_, sr, lr, tr_psRest ta⟩
  obtain ⟨q, hq⟩ := psRest_rel a b
  have hz : lead b ^ (a.length + 1 - b.length) * vI (X : Int) a = vI (X : Int) q * vI (X : Int) b + vI (X : Int) (psRest a b) := by
    apply Rat.intCast_inj.mp
    rw [Rat.intCast_add, Rat.intCast_mul, Rat.intCast_mul, vI_ev, vI_ev, vI_ev, vI_ev]
    exact hq _
  have hX2 : 8 * 2 ^ 65 ≤ X := Nat.le_trans (Nat.mul_le_mul_left 8 (Nat.pow_le_pow_right (by decide) (by decide))) hX
  obtain ⟨f1, f2, f3, f4⟩ := vI_facts hX2 sb hb tb
  have hr : 2 * (vI (X : Int) (psRest a b)).natAbs < (vI (X : Int) b).natAbs := by
    have p0 : 0 < X := by have := Nat.two_pow_pos 500; omega
    have p1 := Nat.pow_pos (n := b.length - 1) p0
    rcases vI_bd hX sr with e | ⟨_, e⟩
    · have := Nat.pow_le_pow_right p0 (show (psRest a b).length ≤ b.length - 1 by omega)
      generalize X ^ (psRest a b).length = Y at *
      omega
    · rw [e]; omega
  have := rem_near hz hr
  rw [Int.natAbs_mul, Int.natAbs_pow] at this
  exact this
end Mine
end

section
open PySem PySem.W PyProof.Rows PySem.Calls
namespace Mine

theorem iff'_or {b t e : Bool} (h : iff' b t e = true) : (b = true ∧ t = true) ∨ (b = false ∧ e = true) := by
  cases b
  · exact .inr ⟨rfl, h⟩
  · exact .inl ⟨rfl, h⟩
noncomputable def ldN (X B lb : Nat) : Nat := (B + B + X ^ (lb - 1)) / (X ^ (lb - 1) + X ^ (lb - 1))
noncomputable def rsN (b A B m : Nat) : Nat := if 2 * ((b ^ m * A) % B) ≤ B then (b ^ m * A) % B else B - (b ^ m * A) % B
theorem rsN_eq (b A B m : Nat) : ifn (Nat.ble (Nat.add (b ^ m * A % B) (b ^ m * A % B)) B) (b ^ m * A % B) (B - b ^ m * A % B) = rsN b A B m := by
  unfold rsN
  generalize b ^ m * A % B = rho
  rw [ifn_eq]
  by_cases h : 2 * rho ≤ B
  · rw [if_pos h, if_pos (Nat.ble_eq.mpr (by show rho + rho ≤ B; omega))]
  · rw [if_neg h, if_neg (fun hb => h (by have hb : rho + rho ≤ B := Nat.ble_eq.mp hb; omega))]
inductive StepN (X off mask : Nat) (fin : Nat → Nat → Bool) (n A la B lb fr h : Nat) : Prop
  | stop (h1 : lb ≤ 1) (h2 : fin B lb = true)
  | last (h1 : 1 < lb) (h2 : fr * h ^ (la - lb) ≤ 2 ^ 298) (h3 : rsN (ldN X B lb) A B (la - lb + 1) = 0) (h4 : fin B lb = true)
  | next (h1 : 1 < lb) (h2 : fr * h ^ (la - lb) ≤ 2 ^ 298) (h3 : rsN (ldN X B lb) A B (la - lb + 1) ≠ 0) (C hn : Nat) (h4 : C * (fr * h ^ (la - lb)) = rsN (ldN X B lb) A B (la - lb + 1)) (h5 : (C + off) &&& mask = 0)
    (h6 : hn * h ^ (la - lb - 1) = ldN X B lb ^ (la - lb)) (h7 : lenN X (lb - 1) (C + C) (fun lc => chainN X off mask fin n B lb C lc (ldN X B lb) hn) = true)
theorem chain_unf {X off mask : Nat} {fin : Nat → Nat → Bool} {n A la B lb fr h : Nat} (H : chainN X off mask fin (n + 1) A la B lb fr h = true) : StepN X off mask fin n A la B lb fr h := by
  rcases iff'_or (b := Nat.ble lb 1) H with ⟨c1, H⟩ | ⟨c1, H⟩
  · exact .stop (Nat.ble_eq.mp c1) H
  have c1 : 1 < lb := by
    by_cases h : lb ≤ 1
    · rw [Nat.ble_eq.mpr h] at c1; cases c1
    · omega
  rw [fo_eq, fo_eq, fo_eq, fo_eq] at H
  rcases iff'_or H with ⟨c2, H⟩ | ⟨_, H⟩
  · rw [fo_eq, fo_eq] at H
    have eR := rsN_eq (ldN X B lb) A B (la - lb + 1)
    unfold ldN at eR
    erw [eR] at H
    rcases iff'_or H with ⟨c3, H⟩ | ⟨c3, H⟩
    · exact .last c1 (Nat.ble_eq.mp c2) (Nat.eq_of_beq_eq_true c3) H
    · rw [fo_eq] at H
      rcases iff'_or H with ⟨c4, H⟩ | ⟨_, H⟩
      · rcases iff'_or H with ⟨c5, H⟩ | ⟨_, H⟩
        · rw [fo_eq, fo_eq, fo_eq] at H
          rcases iff'_or H with ⟨c6, H⟩ | ⟨_, H⟩
          · exact .next c1 (Nat.ble_eq.mp c2) (Nat.ne_of_beq_eq_false c3) _ _ (Nat.eq_of_beq_eq_true c4) (Nat.eq_of_beq_eq_true c5) (Nat.eq_of_beq_eq_true c6) H
          · cases H
        · cases H
      · cases H
  · cases H
end Mine
end

section
local macro_rules | `(tactic| omega) => `(tactic| first | grind | omega (config := {}))
open PySem PySem.W PyProof.Rows PySem.Calls
set_option exponentiation.threshold 600
namespace Mine

theorem oX_pow : oX = 2 ^ 512 := rfl
theorem oX_big : 8 * 2 ^ 500 ≤ oX := by rw [oX_pow]; decide +kernel
theorem oX_big2 : 8 * 2 ^ 65 ≤ oX := by rw [oX_pow]; decide +kernel
theorem oOff_eq : oOff = ofn oX (2 ^ 64) 7 := by decide +kernel
theorem oMask_eq : oMask = ofn (2 ^ 512) (2 ^ 512 - 2 ^ 65) 7 := by decide +kernel
theorem oOff_small : oOff + oX ^ 6 ≤ oX ^ 7 ∧ oOff + oX ^ 6 * oX ≤ 2 * oX ^ 7 := by decide +kernel
theorem oX_pos : 0 < oX := by rw [oX_pow]; decide +kernel
theorem unpack {C : Nat} (h1 : C + oOff < oX ^ 7) (h2 : (C + oOff) &&& oMask = 0) : SmL 65 (dgs oX (2 ^ 64) 7 (C + oOff)) ∧ vI (oX : Int) (dgs oX (2 ^ 64) 7 (C + oOff)) = C := by
  constructor
  · rw [oMask_eq] at h2
    exact dgs_sm (k := 512) (by decide) 7 _ h2
  · rw [dgs_val oX_pos _ _ _ h1, ← oOff_eq]; omega
theorem getD_map0 {f : Int → Int} (h0 : f 0 = 0) (p : List Int) (i : Nat) : (p.map f).getD i 0 = f (p.getD i 0) := by
  rw [List.getD_eq_getElem?_getD, List.getD_eq_getElem?_getD, List.getElem?_map]
  cases p[i]? <;> simp [h0]
theorem mem_getD {p : List Int} {c : Int} (h : c ∈ p) : ∃ i, p.getD i 0 = c := by
  obtain ⟨i, hi, e⟩ := List.mem_iff_getElem.mp h
  exact ⟨i, by rw [List.getD_eq_getElem?_getD, List.getElem?_eq_getElem hi]; exact e⟩
theorem div_packed {r : List Int} {d : Int} {C : Nat} (sr : SmL 500 r) (tr : Tr r) (hd : d.natAbs ≤ 2 ^ 298) (hr : (vI (oX : Int) r).natAbs = C * d.natAbs) (h0 : C ≠ 0) (h1 : C + oOff < oX ^ 7) (h2 : (C + oOff) &&& oMask = 0) (hd0 : d ≠ 0) :
    SmL 65 (zdivided r d) ∧ (vI (oX : Int) (zdivided r d)).natAbs = C ∧ Tr (zdivided r d) ∧ (zdivided r d).length = r.length ∧ zdivided r d ≠ [] ∧ ∀ i, r.getD i 0 = d * (zdivided r d).getD i 0 := by
  obtain ⟨u1, u2⟩ := unpack h1 h2
  generalize dgs oX (2 ^ 64) 7 (C + oOff) = e at u1 u2
  obtain ⟨σ, hσ, eσ⟩ : ∃ σ : Int, (σ = 1 ∨ σ = -1) ∧ vI (oX : Int) r = d * (σ * C) := by
    have : (vI (oX : Int) r).natAbs = (d * C).natAbs := by rw [hr, Int.natAbs_mul, Int.natAbs_natCast, Nat.mul_comm]
    rcases Int.natAbs_eq_natAbs_iff.mp this with e | e
    · exact ⟨1, .inl rfl, by rw [e]; grind⟩
    · exact ⟨-1, .inr rfl, by rw [e]; grind⟩
  have se : SmL 65 (e.map (σ * ·)) := fun c hc => by
    obtain ⟨x, hx, rfl⟩ := List.mem_map.mp hc
    have := u1 x hx
    unfold Sm at this ⊢
    rcases hσ with rfl | rfl <;> omega
  have ve : vI (oX : Int) (e.map (σ * ·)) = σ * C := by rw [vI_map, u2]
  generalize e.map (σ * ·) = e' at se ve
  have sd : Sm 299 d := by
    unfold Sm
    have : 2 ^ 298 < 2 ^ 299 := by decide +kernel
    omega
  have sde : SmL 500 (e'.map (d * ·)) := fun c hc => by
    obtain ⟨x, hx, rfl⟩ := List.mem_map.mp hc
    exact (sd.mul (se x hx)).mono (by omega)
  have key := vI_inj oX_big _ r (e'.map (d * ·)) (Nat.le_max_left _ _) (Nat.le_max_right _ _) sr sde (by rw [vI_map, ve, eσ])
  have key : ∀ i, r.getD i 0 = d * e'.getD i 0 := fun i => by rw [key, getD_map0 (by simp)]
  have kd : ∀ i, (zdivided r d).getD i 0 = e'.getD i 0 := fun i => by
    unfold zdivided
    rw [getD_map0 (f := fun x => x.fdiv d) (by simp), key, Int.mul_fdiv_cancel_left _ hd0]
  have vc : vI (oX : Int) (zdivided r d) = σ * C := by rw [vI_congr oX kd, ve]
  refine ⟨SmL.of_getD fun j => by rw [kd]; exact se.getD j, ?_, tr_fdiv tr fun c hc => ?_, by unfold zdivided; rw [List.length_map], fun h => ?_, fun i => by rw [kd]; exact key i⟩
  · rw [vc]; rcases hσ with rfl | rfl <;> omega
  · obtain ⟨i, rfl⟩ := mem_getD hc
    exact ⟨_, key i⟩
  · rw [h] at vc
    have : (0 : Int) = σ * C := vc
    rcases hσ with rfl | rfl <;> omega
theorem pow_ne0 {x : Int} (h : x ≠ 0) : ∀ k : Nat, x ^ k ≠ 0
  | 0 => by simp
  | k + 1 => by rw [Int.pow_succ]; exact Int.mul_ne_zero (pow_ne0 h k) h
theorem rs_ok {a b : List Int} (sa : SmL 65 a) (sb : SmL 65 b) (ta : Tr a) (tb : Tr b) (hb2 : 2 ≤ b.length) (hab : b.length < a.length) (h7 : a.length ≤ 7) :
    ldN oX (vI (oX : Int) b).natAbs b.length = (lead b).natAbs ∧ rsN (ldN oX (vI (oX : Int) b).natAbs b.length) (vI (oX : Int) a).natAbs (vI (oX : Int) b).natAbs (a.length - b.length + 1) = (vI (oX : Int) (psRest a b)).natAbs := by
  have hb : b ≠ [] := fun e => by rw [e] at hb2; simp at hb2
  have f1 : ldN oX (vI (oX : Int) b).natAbs b.length = (lead b).natAbs := (vI_facts oX_big2 sb hb tb).1
  refine ⟨f1, ?_⟩
  rw [f1, show a.length - b.length + 1 = a.length + 1 - b.length by omega]
  exact (psRest_packed oX_big sa sb ta tb hb2 hab h7).1
theorem pre_ok {front height : Int} {δ : Nat} (f0 : front ≠ 0) (h0 : height ≠ 0) (hδ : 1 ≤ δ) (lD : front.natAbs * height.natAbs ^ δ ≤ 2 ^ 298) : Sm 300 front ∧ Sm 300 height := by
  have big : 2 ^ 298 < 2 ^ 300 := by decide +kernel
  have hp1 : 0 < height.natAbs := Int.natAbs_pos.mpr h0
  have fp1 : 0 < front.natAbs := Int.natAbs_pos.mpr f0
  have a1 : height.natAbs ^ 1 ≤ height.natAbs ^ δ := Nat.pow_le_pow_right hp1 hδ
  rw [Nat.pow_one] at a1
  exact ⟨Nat.lt_of_le_of_lt (Nat.le_trans (Nat.le_mul_of_pos_right _ (Nat.pow_pos hp1)) lD) big, Nat.lt_of_le_of_lt (Nat.le_trans a1 (Nat.le_trans (Nat.le_mul_of_pos_left _ fp1) lD)) big⟩
theorem height_ok {b height : Int} {δ hn : Nat} (h0 : height ≠ 0) (b0 : b ≠ 0) (hδ : 1 ≤ δ) (e3 : hn * height.natAbs ^ (δ - 1) = b.natAbs ^ δ) : (nextHeight b δ height).natAbs = hn ∧ nextHeight b δ height ≠ 0 := by
  unfold nextHeight
  rw [if_neg (Nat.ne_of_gt hδ)]
  have hdv : height ^ (δ - 1) ∣ b ^ δ := by
    apply Int.natAbs_dvd_natAbs.mp
    rw [Int.natAbs_pow, Int.natAbs_pow]
    exact ⟨hn, by rw [← e3, Nat.mul_comm]⟩
  have hm := Int.mul_fdiv_cancel' hdv
  constructor
  · have := congrArg Int.natAbs hm
    rw [Int.natAbs_mul, Int.natAbs_pow, Int.natAbs_pow, ← e3, Nat.mul_comm] at this
    exact Nat.eq_of_mul_eq_mul_right (Nat.pow_pos (Int.natAbs_pos.mpr h0)) this
  · intro e; rw [e, Int.mul_zero] at hm; exact pow_ne0 b0 _ hm.symm
inductive ChainOk (fin : Nat → Nat → Bool) (n : Nat) (a b : List Int) (front height : Int) : Prop
  | mk (last : List Int) (run : RunOk n a b front height last) (sl : SmL 65 last) (tl : Tr last) (nl : last ≠ []) (ll : last.length ≤ 7) (fl : fin (vI (oX : Int) last).natAbs last.length = true)
theorem chain_ok {fin : Nat → Nat → Bool} : ∀ (n : Nat) (a b : List Int) (front height : Int), chainN oX oOff oMask fin n (vI (oX : Int) a).natAbs a.length (vI (oX : Int) b).natAbs b.length front.natAbs height.natAbs = true →
    SmL 65 a → SmL 65 b → Tr a → Tr b → b ≠ [] → b.length < a.length → a.length ≤ 7 → front ≠ 0 → height ≠ 0 → ChainOk fin n a b front height := by
  intro n
  induction n with
  | zero => exact fun a b front height H sa sb ta tb hb hab h7 f0 h0 => ⟨b, rfl, sb, tb, hb, Nat.le_trans (Nat.le_of_lt hab) h7, H⟩
  | succ n ih =>
    intro a b front height H sa sb ta tb hb hab h7 f0 h0
    have b7 := Nat.le_trans (Nat.le_of_lt hab) h7
    have hδ : 1 ≤ a.length - b.length := by omega
    rcases chain_unf H with ⟨c1, c2⟩ | ⟨c1, lD, r0, c3⟩ | ⟨c1, lD, r0, C, hn, e1, e2, e3, c4⟩
    · refine ⟨b, ?_, sb, tb, hb, b7, c2⟩
      unfold RunOk
      rw [if_neg (Nat.not_lt.mpr c1)]
    · obtain ⟨q1, q2⟩ := pre_ok f0 h0 hδ lD
      obtain ⟨p0, p1⟩ := rs_ok sa sb ta tb c1 hab h7
      have pp := (psRest_packed oX_big sa sb ta tb c1 hab h7).2
      refine ⟨b, ?_, sb, tb, hb, b7, c3⟩
      unfold RunOk
      rw [if_pos c1]
      refine ⟨sa.mono (by decide), sb.mono (by decide), q1, q2, f0, h0, Nat.le_succ_of_le h7, ?_⟩
      have : psRest a b = [] := by
        by_cases e : psRest a b = []
        · exact e
        · have := (vI_facts oX_big pp.1 e pp.2.2).2.1
          rw [← p1, r0] at this; exact absurd this (Nat.not_lt_zero _)
      rw [if_pos this]
    · obtain ⟨q1, q2⟩ := pre_ok f0 h0 hδ lD
      obtain ⟨p0, p1⟩ := rs_ok sa sb ta tb c1 hab h7
      have pp := (psRest_packed oX_big sa sb ta tb c1 hab h7).2
      have eD : (front * height ^ (a.length - b.length)).natAbs = front.natAbs * height.natAbs ^ (a.length - b.length) := by rw [Int.natAbs_mul, Int.natAbs_pow]
      have hd0 : front * height ^ (a.length - b.length) ≠ 0 := Int.mul_ne_zero f0 (pow_ne0 h0 _)
      rw [p1] at e1 r0
      rw [← eD] at e1 lD
      rw [p0] at e3 c4
      have hN := height_ok h0 (tb hb) hδ e3
      have hr : psRest a b ≠ [] := fun e => r0 (by rw [e]; rfl)
      have hR := (vI_facts oX_big pp.1 hr pp.2.2).2.2.1
      have C0 : C ≠ 0 := fun e => r0 (by rw [← e1, e, Nat.zero_mul])
      have hC : C + oOff < oX ^ 7 := by
        have hCR : C ≤ (vI (oX : Int) (psRest a b)).natAbs := by rw [← e1]; exact Nat.le_mul_of_pos_right _ (Int.natAbs_pos.mpr hd0)
        have h6 : oX ^ (psRest a b).length ≤ oX ^ 6 := Nat.pow_le_pow_right oX_pos (by omega)
        have := oOff_small.1
        clear hN e3 c4 ih
        omega
      obtain ⟨d1, d2, d3, d4, d5, _⟩ := div_packed pp.1 pp.2.2 lD e1.symm C0 hC e2 hd0
      generalize hc : zdivided (psRest a b) (front * height ^ (a.length - b.length)) = c at d1 d2 d3 d4 d5
      obtain ⟨_, g2, g3, _⟩ := vI_facts oX_big2 d1 d5 d3
      rw [d2] at g2 g3
      have dl : c.length < b.length := by rw [d4]; exact pp.2.1
      rw [lenN_eq oX oX_pos (C + C) c.length _ (List.length_pos_iff.mpr d5) (by omega) (by omega) _ (by omega), ← hN.1, ← d2] at c4
      obtain ⟨last, l1, l2, l3, l4, l5, l6⟩ := ih b c _ _ c4 sb d1 tb d3 d5 dl b7 (tb hb) hN.2
      refine ⟨last, ?_, l2, l3, l4, l5, l6⟩
      unfold RunOk
      rw [if_pos c1]
      refine ⟨sa.mono (by decide), sb.mono (by decide), q1, q2, f0, h0, Nat.le_succ_of_le h7, ?_⟩
      rw [if_neg hr, hc]
      exact l1
end Mine
end

section
local macro_rules | `(tactic| omega) => `(tactic| first | grind | omega (config := {}))
open PySem PySem.W PyProof.Rows PySem.Calls
set_option exponentiation.threshold 600
namespace Mine

theorem chk_unf {X off mask A D G : Nat} (H : chk X off mask A D G = true) : (A + off) &&& mask = 0 ∧ gg X (2 ^ 64) 7 (A + off) = 1 ∧ (D + off) &&& mask = 0 ∧
    lenN X 7 (A + A) (fun la => chainN X off mask (finN off mask A G) (la - 1) A la (D / gg X (2 ^ 64) 7 (D + off)) (la - 1) 1 1) = true := by
  unfold chk at H
  rw [fo_eq] at H
  rcases iff'_or H with ⟨c1, H⟩ | ⟨_, H⟩
  · rw [ggN_eq] at H
    rcases iff'_or H with ⟨c2, H⟩ | ⟨_, H⟩
    · rw [fo_eq] at H
      rcases iff'_or H with ⟨c3, H⟩ | ⟨_, H⟩
      · rw [ggN_eq, fo_eq] at H
        simp only [fo_eq] at H
        exact ⟨Nat.eq_of_beq_eq_true c1, Nat.eq_of_beq_eq_true c2, Nat.eq_of_beq_eq_true c3, H⟩
      · cases H
    · cases H
  · cases H
theorem fin_unf {off mask A G L ll : Nat} (H : finN off mask A G L ll = true) : (ll ≤ 1 ∧ A = G) ∨ (1 < ll ∧ ∃ E g, E * G = A ∧ (E + off) &&& mask = 0 ∧ E * g = L ∧ g ≤ 2 ^ 298) := by
  unfold finN at H
  rcases iff'_or H with ⟨c1, H⟩ | ⟨c1, H⟩
  · exact .inl ⟨Nat.ble_eq.mp c1, Nat.eq_of_beq_eq_true H⟩
  · have c1 : 1 < ll := by
      by_cases h : ll ≤ 1
      · rw [Nat.ble_eq.mpr h] at c1; cases c1
      · omega
    rw [fo_eq] at H
    rcases iff'_or H with ⟨c2, H⟩ | ⟨_, H⟩
    · rcases iff'_or H with ⟨c3, H⟩ | ⟨_, H⟩
      · rw [fo_eq] at H
        rcases iff'_or H with ⟨c4, H⟩ | ⟨_, H⟩
        · exact .inr ⟨c1, _, _, Nat.eq_of_beq_eq_true c2, Nat.eq_of_beq_eq_true c3, Nat.eq_of_beq_eq_true c4, Nat.ble_eq.mp H⟩
        · cases H
      · cases H
    · cases H
theorem dvd_gcdAll {d : Int} {p : List Int} (h : ∀ c ∈ p, d ∣ c) : d ∣ gcdAll p := by
  unfold gcdAll
  have key : ∀ (l : List Int) (g : Int), d ∣ g → (∀ c ∈ l, d ∣ c) → d ∣ l.foldl gcdI g := by
    intro l
    induction l with
    | nil => intro g hg _; exact hg
    | cons c l ih => intro g hg hl; exact ih _ (Int.dvd_coe_gcd hg (hl c (.head _))) (fun x hx => hl x (.tail _ hx))
  exact key p 0 (Int.dvd_zero d) h
theorem norm1_sm {w : Nat} : ∀ {p : List Int}, SmL w p → norm1 p ≤ p.length * 2 ^ w
  | [], _ => by simp [norm1]
  | c :: l, h => by
    have h1 := norm1_sm (p := l) (fun x hx => h x (.tail _ hx))
    have h2 := h c (.head _)
    unfold Sm at h2
    rw [norm1_cons, List.length_cons, Nat.add_mul]; omega
theorem lead_zder {P : List Int} (h : 2 ≤ P.length) : lead (zder P) = lead P * ((P.length - 1 : Nat) : Int) := by
  unfold lead
  rw [zder_getD, zder_len, show P.length - 1 - 1 + 1 = P.length - 1 by omega]
theorem seen {p : List Int} {A : Nat} (sp : SmL 65 p) (ht : Tr p) (hp : p ≠ []) (h7 : p.length ≤ 7) (hv : vI (oX : Int) p = A) (h2 : (A + oOff) &&& oMask = 0) (d : Int) : (∀ c ∈ p, d ∣ c) ↔ d.natAbs ∣ gg oX (2 ^ 64) 7 (A + oOff) := by
  have h1 : A + oOff < oX ^ 7 := by
    have h3 := (vI_facts oX_big2 sp hp ht).2.2.1
    have h4 : oX ^ p.length ≤ oX ^ 7 := Nat.pow_le_pow_right oX_pos h7
    have h5 : 8 * oOff < oX ^ 7 := by decide +kernel
    rw [hv] at h3
    omega
  obtain ⟨u1, u2⟩ := unpack h1 h2
  have key := vI_inj oX_big2 _ p _ (Nat.le_max_left _ _) (Nat.le_max_right _ _) sp u1 (by rw [u2, hv])
  rw [gg_spec]
  constructor
  · intro h c hc
    obtain ⟨i, rfl⟩ := mem_getD hc
    rw [← key]
    exact Int.natAbs_dvd_natAbs.mpr (getD_dvd h i)
  · intro h c hc
    obtain ⟨i, rfl⟩ := mem_getD hc
    rw [key]
    have hh : ∀ c ∈ dgs oX (2 ^ 64) 7 (A + oOff), d ∣ c := fun c hc => Int.natAbs_dvd_natAbs.mp (h c hc)
    exact getD_dvd hh i
structure GoodP (P G last : List Int) : Prop where
  run : RunOk (zprim (zder P)).length P (zprim (zder P)) 1 1 last
  sm : SmL 65 last
  tr : Tr last
  ne : last ≠ []
  len : last.length ≤ 7
  one : gcdAll P = 1
  short : last.length ≤ 1 → ∀ x, ev P x = ev G x
  long : 1 < last.length → Tr (zprim last) ∧ ∀ x, ev P x = ev (zprim last) x * ev G x
theorem fin_ok {P G last : List Int} {A Gn : Nat} (sP : SmL 65 P) (tP : Tr P) (nP : P ≠ []) (P7 : P.length ≤ 7) (vP : vI (oX : Int) P = A) (hA : (A + oOff) &&& oMask = 0) (g1 : gg oX (2 ^ 64) 7 (A + oOff) = 1)
    (nG : norm1 G ≤ 8 ^ 3) (vG : vI (oX : Int) G = Gn) (sl : SmL 65 last) (tl : Tr last) (nl : last ≠ []) (H : finN oOff oMask A Gn (vI (oX : Int) last).natAbs last.length = true) :
    (last.length ≤ 1 → ∀ x, ev P x = ev G x) ∧ (1 < last.length → Tr (zprim last) ∧ ∀ x, ev P x = ev (zprim last) x * ev G x) := by
  have sG : SmL 65 G := fun c hc => by
    have := norm1_mem c hc
    unfold Sm
    have : 8 ^ 3 < 2 ^ 65 := by decide
    omega
  rcases fin_unf H with ⟨h1, h2⟩ | ⟨h1, E, g, e1, e2, e3, e4⟩
  · refine ⟨fun _ => ev_congr (vI_inj oX_big2 _ P G (Nat.le_max_left _ _) (Nat.le_max_right _ _) sP sG (by rw [vP, vG, h2])), fun h => by omega⟩
  · refine ⟨fun h => by omega, fun _ => ?_⟩
    have fP := vI_facts oX_big2 sP nP tP
    rw [vP] at fP
    have fL := vI_facts oX_big2 sl nl tl
    have Q0 : 0 < oX ^ (P.length - 1) := Nat.pow_pos oX_pos
    have A0 : A ≠ 0 := by have := fP.2.1; omega
    have E0 : E ≠ 0 := fun e => by rw [e] at e1; omega
    have G0 : Gn ≠ 0 := fun e => by rw [e] at e1; omega
    have hEA : E ≤ A := by rw [← e1]; exact Nat.le_mul_of_pos_right _ (by omega)
    have h1 : E + oOff < oX ^ 7 := by
      have h3 := fP.2.2.1
      have h4 : oX ^ P.length ≤ oX ^ 7 := Nat.pow_le_pow_right oX_pos P7
      have h5 : 8 * oOff < oX ^ 7 := by decide +kernel
      omega
    obtain ⟨u1, u2⟩ := unpack h1 e2
    have ul := dgs_len oX (2 ^ 64) 7 (E + oOff)
    generalize dgs oX (2 ^ 64) 7 (E + oOff) = e at u1 u2 ul
    have sEG : SmL 500 (pmul e G) := fun c hc => by
      have n1 := norm1_mem c hc
      have n2 := norm1_pmul e G
      have n3 := norm1_sm u1
      rw [ul] at n3
      have n4 := Nat.mul_le_mul n3 nG
      have n5 : 7 * 2 ^ 65 * 8 ^ 3 < 2 ^ 500 := by decide +kernel
      unfold Sm
      omega
    have kEG := vI_inj oX_big _ P (pmul e G) (Nat.le_max_left _ _) (Nat.le_max_right _ _) (sP.mono (by omega)) sEG (by
      apply Rat.intCast_inj.mp
      rw [vI_ev oX (pmul e G), (ev_pmul e G _).1, ← vI_ev, ← vI_ev, u2, vG, vP, ← e1, ← Rat.intCast_mul]
      simp)
    have evP : ∀ x, ev P x = ev e x * ev G x := fun x => by rw [ev_congr kEG, (ev_pmul e G x).1]
    have Q1 : 0 < oX ^ (last.length - 1) := Nat.pow_pos oX_pos
    have g0 : g ≠ 0 := fun h => by rw [h] at e3; have := fL.2.1; omega
    obtain ⟨d1, d2, d3, d4, d5, d6⟩ := div_packed (d := (g : Int)) (C := E) (sl.mono (by omega)) tl (by rw [Int.natAbs_natCast]; exact e4) (by rw [Int.natAbs_natCast]; exact e3.symm) E0 h1 e2 (by omega)
    generalize zdivided last (g : Int) = c at d1 d2 d3 d4 d5 d6
    have lc := d3 d5
    obtain ⟨τ, hτ, τ0⟩ : ∃ τ : Int, (τ = 1 ∨ τ = -1) ∧ 0 < τ * lead c := by
      by_cases h0 : 0 < lead c
      · exact ⟨1, .inl rfl, by omega⟩
      · exact ⟨-1, .inr rfl, by omega⟩
    have hτ0 : τ ≠ 0 := by omega
    have tH : Tr (c.map (τ * ·)) := tr_map (by simp) d3 (fun x _ hx => Int.mul_ne_zero hτ0 hx)
    have nH : c.map (τ * ·) ≠ [] := by simpa using d5
    have sH : SmL 65 (c.map (τ * ·)) := fun y hy => by
      obtain ⟨x, hx, rfl⟩ := List.mem_map.mp hy
      have := d1 x hx
      unfold Sm at this ⊢
      rcases hτ with rfl | rfl <;> omega
    have lH : 0 < lead (c.map (τ * ·)) := by rw [lead_map]; exact τ0
    have vH : vI (oX : Int) (c.map (τ * ·)) = E := by
      have := (vI_facts oX_big2 sH nH tH).2.2.2.mp lH
      rw [vI_map] at this ⊢
      rcases hτ with rfl | rfl <;> omega
    have eL : last = (c.map (τ * ·)).map ((g * τ) * ·) := by
      refine list_ext (by rw [List.length_map, List.length_map, d4]) fun i => ?_
      rw [d6, getD_map0 (by simp), getD_map0 (by simp)]
      rcases hτ with rfl | rfl <;> grind
    generalize c.map (τ * ·) = h at *
    have kH := vI_inj oX_big2 _ h e (Nat.le_max_left _ _) (Nat.le_max_right _ _) sH u1 (by rw [vH, u2])
    have evP2 : ∀ x, ev P x = ev h x * ev G x := fun x => by rw [evP, ev_congr kH]
    have gp := gcdAll_pos nH tH
    have one : gcdAll h = 1 := by
      have hd : ∀ i, h.getD i 0 = gcdAll h * (h.map (·.fdiv (gcdAll h))).getD i 0 := fun i => by
        rw [getD_map0 (f := fun x => x.fdiv (gcdAll h)) (by simp), Int.mul_fdiv_cancel' (getD_dvd (gcdAll_dvd h) i)]
      have e5 : ∀ i, P.getD i 0 = gcdAll h * (pmul (h.map (·.fdiv (gcdAll h))) G).getD i 0 := fun i => by
        rw [← getD_map0 (f := fun x => gcdAll h * x) (by simp)]
        refine ev_inj (fun x => ?_) i
        rw [(ev_map _ _ x).1, (ev_pmul _ _ x).1, evP2, ev_div (gcdAll_dvd h) x]; grind
      have := (seen sP tP nP P7 vP hA (gcdAll h)).mp (fun y hy => by
        obtain ⟨i, rfl⟩ := mem_getD hy
        exact ⟨_, e5 i⟩)
      rw [g1] at this
      have := Nat.dvd_one.mp this
      omega
    have ez : zprim last = h := by
      rw [eL, zprim_mul (Int.mul_ne_zero (by omega) hτ0) nH tH, zprim_one one lH]
    rw [ez]
    exact ⟨tH, evP2⟩
end Mine
end

section
open PySem PySem.W PyProof.Rows PySem.Calls
set_option exponentiation.threshold 600
namespace Mine

theorem zder_sm {n : Nat} {P : List Int} (h : SmL n P) (h7 : P.length ≤ 8) : SmL (n + 3) (zder P) := by
  refine SmL.of_getD fun j => ?_
  rw [zder_getD]
  by_cases hj : j + 1 < P.length
  · have h3 : Sm 3 ((j + 1 : Nat) : Int) := by unfold Sm; omega
    exact (h.getD (j + 1)).mul h3
  · rw [getD_zero_of_le (by omega), Int.zero_mul]; exact Sm.zero
theorem chk_ok {P G : List Int} {A D Gn : Nat} (sP : SmL 20 P) (tP : Tr P) (lP : 0 < lead P) (P2 : 2 ≤ P.length) (P7 : P.length ≤ 7) (nG : norm1 G ≤ 8 ^ 3)
    (vP : vI (oX : Int) P = A) (vD : vI (oX : Int) (zder P) = D) (vG : vI (oX : Int) G = Gn) (H : chk oX oOff oMask A D Gn = true) : ∃ last, GoodP P G last := by
  obtain ⟨c1, c2, c3, c4⟩ := chk_unf H
  have nP : P ≠ [] := fun e => by rw [e] at P2; simp at P2
  have zl := zder_len P
  have nz : zder P ≠ [] := fun e => by rw [e] at zl; simp at zl; omega
  have tz := tr_zder tP
  have sP65 : SmL 65 P := sP.mono (by omega)
  have sz : SmL 23 (zder P) := zder_sm sP (by omega)
  have lz : 0 < lead (zder P) := by rw [lead_zder P2]; exact Int.mul_pos lP (by omega)
  have g1 : gcdAll P = 1 := by
    have hp := gcdAll_pos nP tP
    have := (seen sP65 tP nP P7 vP c1 (gcdAll P)).mp (gcdAll_dvd P)
    rw [c2] at this
    have := Nat.dvd_one.mp this
    omega
  have gz := gcdAll_pos nz tz
  have eg : ((gg oX (2 ^ 64) 7 (D + oOff) : Nat) : Int) = gcdAll (zder P) := by
    have s := seen (sz.mono (by omega)) tz nz (by omega) vD c3
    have h1 := (s (gcdAll (zder P))).mp (gcdAll_dvd _)
    have h2 := dvd_gcdAll ((s ((gg oX (2 ^ 64) 7 (D + oOff) : Nat) : Int)).mpr (by rw [Int.natAbs_natCast]; exact Nat.dvd_refl _))
    have h3 : (gcdAll (zder P)).natAbs ∣ gg oX (2 ^ 64) 7 (D + oOff) := h1
    have h4 : gg oX (2 ^ 64) 7 (D + oOff) ∣ (gcdAll (zder P)).natAbs := by
      have := Int.natAbs_dvd_natAbs.mpr h2
      rwa [Int.natAbs_natCast] at this
    have := Nat.dvd_antisymm h3 h4
    omega
  have ez : zprim (zder P) = (zder P).map (·.fdiv (gcdAll (zder P))) := by
    unfold zprim zdivided
    rw [if_neg nz, if_pos lz]
  have eB : vI (oX : Int) (zprim (zder P)) = ((D / gg oX (2 ^ 64) 7 (D + oOff) : Nat) : Int) := by
    have h1 : vI (oX : Int) (zder P) = gcdAll (zder P) * vI (oX : Int) (zprim (zder P)) := by
      apply Rat.intCast_inj.mp
      rw [Rat.intCast_mul, vI_ev, vI_ev, ez, ev_div (gcdAll_dvd (zder P))]
    rw [Int.natCast_ediv, eg, ← vD, h1, Int.mul_ediv_cancel_left _ (by omega)]
  have sb : SmL 65 (zprim (zder P)) := (zprim_sm sz).mono (by omega)
  have tb : Tr (zprim (zder P)) := by rw [ez]; exact tr_fdiv tz (gcdAll_dvd _)
  have lb : (zprim (zder P)).length = P.length - 1 := by rw [zprim_len, zl]
  have nb : zprim (zder P) ≠ [] := fun e => by rw [e] at lb; simp at lb; omega
  obtain ⟨f1, f2, f3, f4⟩ := vI_facts oX_big2 sP65 nP tP
  rw [vP, Int.natAbs_natCast] at f2 f3
  rw [lenN_eq oX oX_pos (A + A) P.length _ (by omega) (by omega) (by omega) 7 P7] at c4
  have c5 : chainN oX oOff oMask (finN oOff oMask A Gn) (zprim (zder P)).length (vI (oX : Int) P).natAbs P.length (vI (oX : Int) (zprim (zder P))).natAbs (zprim (zder P)).length (1 : Int).natAbs (1 : Int).natAbs = true := by
    rw [lb, vP, eB, Int.natAbs_natCast, Int.natAbs_natCast]; exact c4
  obtain ⟨last, l1, l2, l3, l4, l5, l6⟩ := chain_ok _ _ _ 1 1 c5 sP65 sb tP tb nb (by omega) P7 (by decide) (by decide)
  obtain ⟨k1, k2⟩ := fin_ok sP65 tP nP P7 vP c1 c2 nG vG l2 l3 l4 l6
  exact ⟨last, l1, l2, l3, l4, l5, g1, k1, k2⟩
end Mine
end

section
open PySem PySem.W PyProof.Rows PySem.Calls
set_option exponentiation.threshold 600
namespace Mine

theorem fac_pos {fa : Fa} (h : FaIn fa) : 0 < lead (facS fa) := by
  cases fa with
  | lin q => have := (lq_pos h).1; simp [facS, lead]; omega
  | sq k => simp [facS, lead]
  | no c d => simp [facS, lead]
theorem fac_inj {fa fb : Fa} (ha : FaIn fa) (hb : FaIn fb) (h : facS fa = facS fb) : fa = fb := by
  cases fa with
  | lin q =>
    cases fb with
    | lin p => simp [facS] at h; congr 1; exact Prod.ext (by omega) (by omega)
    | sq k => simp [facS] at h
    | no c d => simp [facS] at h
  | sq k =>
    have := lk_range ha
    cases fb with
    | lin p => simp [facS] at h
    | sq k' => simp [facS] at h; congr 1
    | no c d =>
      obtain ⟨h1, h2, h3, h4⟩ := hb
      simp [facS] at h; omega
  | no c d =>
    obtain ⟨h1, h2, h3, h4⟩ := ha
    cases fb with
    | lin p => simp [facS] at h
    | sq k =>
      have := lk_range hb
      simp [facS] at h; omega
    | no c' d' => simp [facS] at h; rw [h.1, h.2]
theorem vI_mul (X : Nat) (a b : List Int) : vI (X : Int) (pmul a b) = vI (X : Int) a * vI (X : Int) b := by
  apply Rat.intCast_inj.mp
  rw [Rat.intCast_mul, vI_ev, vI_ev, vI_ev, (ev_pmul a b _).1]
theorem vI_dmul (X : Nat) (a b : List Int) : vI (X : Int) (zder (pmul a b)) = vI (X : Int) (zder a) * vI (X : Int) b + vI (X : Int) a * vI (X : Int) (zder b) := by
  apply Rat.intCast_inj.mp
  rw [Rat.intCast_add, Rat.intCast_mul, Rat.intCast_mul, vI_ev, vI_ev, vI_ev, vI_ev, vI_ev, ev_zder, ev_zder, ev_zder, (ev_pmul a b _).2]
noncomputable abbrev PQ (fs : List (Fa × Bool)) : List Int := prodL ((expand fs).map facS)
theorem expand_cons (fb : Fa × Bool) (fs : List (Fa × Bool)) : expand (fb :: fs) = expand [fb] ++ expand fs := by
  simp [expand]
theorem expand_in {fs : List (Fa × Bool)} (hf : ∀ fb ∈ fs, FaIn fb.1) : ∀ fa ∈ expand fs, FaIn fa := fun fa hfa => by
  obtain ⟨fb, h1, h2⟩ := List.mem_flatMap.mp hfa
  have : fa = fb.1 := by split at h2 <;> simpa using h2
  rw [this]; exact hf fb h1
theorem ev_append (a b : List (List Int)) (x : Rat) : ev (prodL (a ++ b)) x = ev (prodL a) x * ev (prodL b) x := by
  induction a with
  | nil => have : ev (prodL []) x = 1 := by simp [prodL, ev]; grind
           rw [this]; simp
  | cons p a ih =>
    show ev (pmul p (prodL (a ++ b))) x = ev (pmul p (prodL a)) x * _
    rw [(ev_pmul _ _ x).1, (ev_pmul _ _ x).1, ih]; grind
theorem PQ_cons {fb : Fa × Bool} {fs : List (Fa × Bool)} (h : FaIn fb.1) (hf : ∀ fb ∈ fs, FaIn fb.1) : PQ (fb :: fs) = pmul (PQ [fb]) (PQ fs) := by
  have h1 := prodL_facts (expand_in (fs := fb :: fs) (fun g hg => by rcases List.mem_cons.mp hg with rfl | hg; exact h; exact hf g hg))
  have h2 := prodL_facts (expand_in (fs := [fb]) (fun g hg => by rw [List.mem_singleton.mp hg]; exact h))
  have h3 := prodL_facts (expand_in hf)
  refine tr_ev h1.2.2.1 (tr_mul h2.2.1 h3.2.1 h2.2.2.1 h3.2.2.1).2 fun x => ?_
  rw [(ev_pmul _ _ x).1]
  show ev (prodL ((expand (fb :: fs)).map facS)) x = _
  rw [expand_cons, List.map_append, ev_append]
theorem PQ_one {fb : Fa × Bool} (h : TurnIn fb) : PQ [fb] ≠ [] ∧ Tr (PQ [fb]) ∧ 0 < lead (PQ [fb]) ∧ 2 ≤ (PQ [fb]).length ∧ (PQ [fb]).length ≤ 3 ∧ norm1 (PQ [fb]) ≤ 64 := by
  obtain ⟨fa, b⟩ := fb
  obtain ⟨h1, h2⟩ := h
  obtain ⟨n1, n2, n3, n4⟩ := fac_norm h1
  have np := fac_pos h1
  have nn : facS fa ≠ [] := fac_ne
  simp only at n1 n2 n3 n4 np h1
  obtain ⟨m1, m2⟩ := pmul_lead (facS fa) [1] nn (by simp)
  have m3 := norm1_pmul (facS fa) [1]
  have m4 := tr_mul nn (by simp) n4 (show Tr [1] from fun _ => by simp [lead])
  have l1 : lead [1] = 1 := rfl
  have no1 : norm1 [1] = 1 := rfl
  rw [l1, Int.mul_one] at m2
  rw [no1, Nat.mul_one] at m3
  have m1 : (pmul (facS fa) [1]).length = (facS fa).length := by rw [m1]; simp
  cases b with
  | false =>
    have e : PQ [(fa, false)] = pmul (facS fa) [1] := rfl
    rw [e]
    exact ⟨m4.1, m4.2, by omega, by omega, by omega, by omega⟩
  | true =>
    have e : PQ [(fa, true)] = pmul (facS fa) (pmul (facS fa) [1]) := rfl
    obtain ⟨q, hq⟩ := h2 rfl
    have l2 : (facS fa).length = 2 := by rw [show fa = .lin q from hq]; rfl
    obtain ⟨p1, p2⟩ := pmul_lead (facS fa) (pmul (facS fa) [1]) nn m4.1
    have p3 := norm1_pmul (facS fa) (pmul (facS fa) [1])
    have p4 := tr_mul nn m4.1 n4 m4.2
    have p5 := Nat.mul_le_mul n1 (Nat.le_trans m3 n1)
    rw [e]
    exact ⟨p4.1, p4.2, by rw [p2, m2]; exact Int.mul_pos np np, by omega, by omega, by omega⟩
theorem PQ_facts : ∀ {fs : List (Fa × Bool)}, (∀ fb ∈ fs, TurnIn fb) → PQ fs ≠ [] ∧ Tr (PQ fs) ∧ 0 < lead (PQ fs) ∧ 1 + fs.length ≤ (PQ fs).length ∧ (PQ fs).length ≤ 1 + 2 * fs.length ∧ norm1 (PQ fs) ≤ 64 ^ fs.length
  | [], _ => ⟨by simp [PQ, expand, prodL], fun _ => by simp [PQ, expand, prodL, lead], by simp [PQ, expand, prodL, lead], by simp [PQ, expand, prodL], by simp [PQ, expand, prodL], by decide⟩
  | fb :: fs, h => by
    have hb := h fb (.head _)
    obtain ⟨a1, a2, a3, a4, a5, a6⟩ := PQ_one hb
    obtain ⟨b1, b2, b3, b4, b5, b6⟩ := PQ_facts (fs := fs) (fun g hg => h g (.tail _ hg))
    rw [PQ_cons hb.1 (fun g hg => (h g (.tail _ hg)).1)]
    obtain ⟨p1, p2⟩ := pmul_lead (PQ [fb]) (PQ fs) a1 b1
    have p3 := norm1_pmul (PQ [fb]) (PQ fs)
    have p4 := tr_mul a1 b1 a2 b2
    have p5 := Nat.mul_le_mul a6 b6
    exact ⟨p4.1, p4.2, by rw [p2]; exact Int.mul_pos a3 b3, by rw [List.length_cons]; omega, by rw [List.length_cons]; omega, by rw [List.length_cons, Nat.pow_succ]; omega⟩
theorem foldr_perm {f : Fa × Bool → Rat} {fs fs' : List (Fa × Bool)} (h : fs.Perm fs') : (fs.map f).foldr (· * ·) 1 = (fs'.map f).foldr (· * ·) 1 := by
  induction h with
  | nil => rfl
  | cons a _ ih => rw [List.map_cons, List.map_cons, List.foldr_cons, List.foldr_cons, ih]
  | swap a b l => simp only [List.map_cons, List.foldr_cons]; grind
  | trans _ _ h1 h2 => rw [h1, h2]
theorem PQ_perm {fs fs' : List (Fa × Bool)} (hf : ∀ fb ∈ fs, TurnIn fb) (h : fs.Perm fs') : PQ fs = PQ fs' := by
  have h1 := PQ_facts hf
  have h2 := PQ_facts (fs := fs') (fun fb hfb => hf fb (h.mem_iff.mpr hfb))
  exact tr_ev h1.2.1 h2.2.1 fun x => by rw [ev_expand, ev_expand, foldr_perm h]
noncomputable def GoodFs (fs : List (Fa × Bool)) : Prop := ∃ (S : List Fa) (last : List Int), S.Nodup ∧ (∀ x, x ∈ S ↔ x ∈ fs.map (·.1)) ∧ S.length ≤ fs.length ∧ GoodP (PQ fs) (prodL (S.map facS)) last
theorem GoodFs.perm {fs fs' : List (Fa × Bool)} (hf : ∀ fb ∈ fs, TurnIn fb) (h : fs.Perm fs') (g : GoodFs fs) : GoodFs fs' := by
  obtain ⟨S, last, h1, h2, h3, h4⟩ := g
  refine ⟨S, last, h1, fun x => ?_, by rw [← h.length_eq]; exact h3, by rw [← PQ_perm hf h]; exact h4⟩
  rw [h2]; exact (h.map (·.1)).mem_iff
end Mine
end

section
open PySem PySem.W PyProof.Rows PySem.Calls
set_option exponentiation.threshold 600
namespace Mine

theorem foL_eq (l : List T3) (k : List T3 → Bool) : foL l k = k l := by
  induction l generalizing k with
  | nil => rfl
  | cons a l ih =>
    have e : foL (a :: l) k = fo a.1 (fun x => fo a.2.1 fun y => fo a.2.2 fun z => foL l fun t => k ((x, y, z) :: t)) := rfl
    rw [e, fo_eq, fo_eq, fo_eq, ih]
theorem allN_spec {p : Nat → Nat → Nat → Bool} : ∀ {l : List T3}, allN l p = true → ∀ a ∈ l, p a.1 a.2.1 a.2.2 = true
  | [], _, a, h => nomatch h
  | b :: l, H, a, h => by
    have e : allN (b :: l) p = iff' (p b.1 b.2.1 b.2.2) (allN l p) false := rfl
    rw [e] at H
    rcases iff'_or H with ⟨h1, h2⟩ | ⟨_, h2⟩
    · rcases List.mem_cons.mp h with rfl | h
      · exact h1
      · exact allN_spec h2 a h
    · cases h2
theorem allT_spec {p : Nat → Nat → Nat → List T3 → Bool} : ∀ {m : Nat} {l : List T3}, allT m l p = true → ∀ k, k < m → ∀ a t, l.drop k = a :: t → p a.1 a.2.1 a.2.2 (a :: t) = true
  | 0, _, _, k, hk, _, _, _ => absurd hk (Nat.not_lt_zero k)
  | m + 1, [], _, k, _, a, t, h => by simp at h
  | m + 1, b :: l, H, k, hk, a, t, h => by
    have e : allT (m + 1) (b :: l) p = iff' (p b.1 b.2.1 b.2.2 (b :: l)) (allT m l p) false := rfl
    rw [e] at H
    rcases iff'_or H with ⟨h1, h2⟩ | ⟨_, h2⟩
    · cases k with
      | zero =>
        obtain ⟨rfl, rfl⟩ := List.cons.inj h
        exact h1
      | succ k => exact allT_spec h2 k (Nat.lt_of_succ_lt_succ hk) a t h
    · cases h2
theorem run1_unf {X off mask f F F' m : Nat} {l : List T3} (H : run1 X off mask f F F' m l = true) : chk X off mask F F' f = true ∧ ∀ k, k < m → ∀ b t, l.drop k = b :: t →
    chk X off mask (F * b.2.1) (F * b.2.2 + b.2.1 * F') (if f = b.1 then f else f * b.1) = true ∧ ∀ c ∈ b :: t,
      chk X off mask (F * b.2.1 * c.2.1) (F * b.2.1 * c.2.2 + c.2.1 * (F * b.2.2 + b.2.1 * F')) (if f = c.1 ∨ b.1 = c.1 then (if f = b.1 then f else f * b.1) else (if f = b.1 then f else f * b.1) * c.1) = true := by
  have e : run1 X off mask f F F' m l = iff' (chk X off mask F F' f)
    (allT m l fun f2 G G' t =>
      fo (Nat.mul F G) fun P => fo (Nat.add (Nat.mul F G') (Nat.mul G F')) fun P' => fo (ifn (Nat.beq f f2) f (Nat.mul f f2)) fun g2 =>
      iff' (chk X off mask P P' g2)
        (allN t fun f3 H H' =>
          fo (Nat.mul P H) fun R => fo (Nat.add (Nat.mul P H') (Nat.mul H P')) fun R' =>
          fo (ifn (Nat.beq f f3) g2 (ifn (Nat.beq f2 f3) g2 (Nat.mul g2 f3))) fun g3 => chk X off mask R R' g3) false) false := rfl
  rw [e] at H
  have en : ∀ (a b u v : Nat), ifn (Nat.beq a b) u v = if a = b then u else v := fun a b u v => by
    rw [ifn_eq]
    by_cases h : a = b
    · rw [if_pos h, if_pos (by rw [h]; exact Nat.beq_refl b)]
    · rw [if_neg h, if_neg (fun c => h (Nat.eq_of_beq_eq_true c))]
  rcases iff'_or H with ⟨h1, h2⟩ | ⟨_, h2⟩
  · refine ⟨h1, fun k hk b t hb => ?_⟩
    have h3 := allT_spec h2 k hk b t hb
    simp only [fo_eq, en] at h3
    rcases iff'_or h3 with ⟨h4, h5⟩ | ⟨_, h5⟩
    · refine ⟨h4, fun c hc => ?_⟩
      have h6 := allN_spec h5 c hc
      have e3 : ∀ g2 : Nat, (if f = c.1 then g2 else if b.1 = c.1 then g2 else Nat.mul g2 c.1) = (if f = c.1 ∨ b.1 = c.1 then g2 else g2 * c.1) := fun g2 => by
        by_cases k1 : f = c.1
        · rw [if_pos k1, if_pos (Or.inl k1)]
        · by_cases k2 : b.1 = c.1
          · rw [if_neg k1, if_pos k2, if_pos (Or.inr k2)]
          · rw [if_neg k1, if_neg k2, if_neg (by rintro (h | h); exact k1 h; exact k2 h)]; rfl
      rw [e3] at h6
      exact h6
    · cases h5
  · cases h2
theorem pair_tail {α : Type} {x y : α} : ∀ {L : List α}, x ∈ L → y ∈ L → ∃ a b t, [a, b].Perm [x, y] ∧ (a :: t) <:+ L ∧ b ∈ a :: t
  | [], h, _ => nomatch h
  | h :: L, hx, hy => by
    rcases List.mem_cons.mp hx with rfl | hx'
    · exact ⟨x, y, L, .refl _, List.suffix_refl _, hy⟩
    rcases List.mem_cons.mp hy with rfl | hy'
    · exact ⟨y, x, L, .swap .., List.suffix_refl _, hx⟩
    obtain ⟨a, b, t, p, q, r⟩ := pair_tail hx' hy'
    exact ⟨a, b, t, p, List.IsSuffix.trans q (List.suffix_cons _ _), r⟩
theorem triple_tail {α : Type} {x y z : α} : ∀ {L : List α}, x ∈ L → y ∈ L → z ∈ L → ∃ a t b t' c, [a, b, c].Perm [x, y, z] ∧ (a :: t) <:+ L ∧ (b :: t') <:+ (a :: t) ∧ c ∈ b :: t'
  | [], h, _, _ => nomatch h
  | h :: L, hx, hy, hz => by
    rcases List.mem_cons.mp hx with rfl | hx'
    · obtain ⟨b, c, t', p, q, r⟩ := pair_tail hy hz
      exact ⟨x, L, b, t', c, .cons _ p, List.suffix_refl _, q, r⟩
    rcases List.mem_cons.mp hy with rfl | hy'
    · obtain ⟨b, c, t', p, q, r⟩ := pair_tail hx hz
      exact ⟨y, L, b, t', c, (List.Perm.cons _ p).trans (.swap ..), List.suffix_refl _, q, r⟩
    rcases List.mem_cons.mp hz with rfl | hz'
    · obtain ⟨b, c, t', p, q, r⟩ := pair_tail hx hy
      exact ⟨z, L, b, t', c, (List.Perm.cons _ p).trans ((List.Perm.swap ..).trans (.cons _ (.swap ..))), List.suffix_refl _, q, r⟩
    obtain ⟨a, t, b, t', c, p, q, r, s⟩ := triple_tail hx' hy' hz'
    exact ⟨a, t, b, t', c, p, List.IsSuffix.trans q (List.suffix_cons _ _), r, s⟩
theorem opt_mem {fb : Fa × Bool} (h : TurnIn fb) : fb ∈ LOpt := by
  obtain ⟨fa, b⟩ := fb
  obtain ⟨h1, h2⟩ := h
  cases fa with
  | lin q =>
    have h1 : q ∈ LQ := h1
    refine List.mem_append.mpr (.inl (List.mem_append.mpr (.inl (List.mem_flatMap.mpr ⟨q, h1, ?_⟩))))
    cases b <;> simp
  | sq k =>
    have h1 : k ∈ LK := h1
    cases b with
    | true => obtain ⟨q, hq⟩ := h2 rfl; cases hq
    | false => exact List.mem_append.mpr (.inl (List.mem_append.mpr (.inr (List.mem_map_of_mem h1))))
  | no c d =>
    obtain ⟨k1, k2, k3, k4⟩ := h1
    cases b with
    | true => obtain ⟨q, hq⟩ := h2 rfl; cases hq
    | false => exact List.mem_append.mpr (.inr (List.mem_flatMap.mpr ⟨c, by simp; omega, List.mem_map.mpr ⟨d, by simp; omega, rfl⟩⟩))
end Mine
end

section
open PySem PySem.W PyProof.Rows PySem.Calls
set_option exponentiation.threshold 600
namespace Mine

theorem runC_unf {c : Nat × Nat × Nat} {a : Fa × Bool} {t : List (Fa × Bool)} (h : LOpt.drop c.1 = a :: t) (H : runC c = true) : run1 oX oOff oMask (encO oX a).1 (encO oX a).2.1 (encO oX a).2.2 c.2.2 ((LOpt.drop c.2.1).map (encO oX)) = true := by
  unfold runC at H
  rw [fo_eq, fo_eq, fo_eq, foL_eq, h] at H
  exact H
theorem sm65_of {p : List Int} (h : norm1 p ≤ 64 ^ 3) : SmL 65 p := fun c hc => by
  have := norm1_mem c hc
  have h2 : 64 ^ 3 < 2 ^ 65 := by decide
  unfold Sm; omega
theorem vI_pos {p : List Int} (s : SmL 65 p) (t : Tr p) (l : 0 < lead p) (n : p ≠ []) : ((vI (oX : Int) p).toNat : Int) = vI (oX : Int) p := by
  have := (vI_facts oX_big2 s n t).2.2.2.mp l
  omega
theorem enc_ok {fb : Fa × Bool} (h : TurnIn fb) : ((encO oX fb).1 : Int) = vI (oX : Int) (facS fb.1) ∧ ((encO oX fb).2.1 : Int) = vI (oX : Int) (PQ [fb]) ∧ ((encO oX fb).2.2 : Int) = vI (oX : Int) (zder (PQ [fb])) := by
  obtain ⟨n1, n2, n3, n4⟩ := fac_norm h.1
  obtain ⟨a1, a2, a3, a4, a5, a6⟩ := PQ_one h
  have s1 : SmL 65 (facS fb.1) := sm65_of (by have : 8 ≤ 64 ^ 3 := by decide
                                              omega)
  have s2 : SmL 20 (PQ [fb]) := fun c hc => by
    have := norm1_mem c hc
    have h2 : 64 < 2 ^ 20 := by decide
    unfold Sm; omega
  have zl := zder_len (PQ [fb])
  refine ⟨vI_pos s1 n4 (fac_pos h.1) fac_ne, vI_pos (s2.mono (by omega)) a2 a3 a1, vI_pos ((zder_sm s2 (by omega)).mono (by omega)) (tr_zder a2) (by rw [lead_zder a4]; exact Int.mul_pos a3 (by omega)) (fun e => by rw [e] at zl; simp at zl; omega)⟩
theorem enc_inj {a b : Fa × Bool} (ha : TurnIn a) (hb : TurnIn b) : (encO oX a).1 = (encO oX b).1 ↔ a.1 = b.1 := by
  constructor
  · intro h
    have h1 := (enc_ok ha).1
    have h2 := (enc_ok hb).1
    rw [h, h2] at h1
    obtain ⟨n1, n2, n3, n4⟩ := fac_norm ha.1
    obtain ⟨m1, m2, m3, m4⟩ := fac_norm hb.1
    have c : 8 ≤ 64 ^ 3 := by decide
    exact fac_inj ha.1 hb.1 (tr_ext n4 m4 fun i => (vI_inj oX_big2 _ _ _ (Nat.le_max_left _ _) (Nat.le_max_right _ _) (sm65_of (by omega)) (sm65_of (by omega)) h1.symm i))
  · intro h
    have h1 := (enc_ok ha).1
    have h2 := (enc_ok hb).1
    rw [h, ← h2] at h1
    omega
structure SPk (S l : List Fa) (G : Nat) : Prop where
  nd : S.Nodup
  mem : ∀ x, x ∈ S ↔ x ∈ l
  len : S.length ≤ l.length
  val : vI (oX : Int) (prodL (S.map facS)) = G
theorem SPk.old {S l : List Fa} {G : Nat} {fa : Fa} (h : SPk S l G) (hm : fa ∈ l) : SPk S (l ++ [fa]) G :=
  ⟨h.nd, fun x => by
    rw [h.mem, List.mem_append, List.mem_singleton]
    constructor
    · exact .inl
    · rintro (h | rfl)
      · exact h
      · exact hm, by rw [List.length_append]; have := h.len; omega, h.val⟩
theorem SPk.new {S l : List Fa} {G f : Nat} {fa : Fa} (h : SPk S l G) (hm : fa ∉ l) (hf : (f : Int) = vI (oX : Int) (facS fa)) : SPk (fa :: S) (l ++ [fa]) (G * f) :=
  ⟨List.nodup_cons.mpr ⟨fun c => hm ((h.mem _).mp c), h.nd⟩, fun x => by
    rw [List.mem_cons, h.mem, List.mem_append, List.mem_singleton]
    constructor
    · rintro (h | h)
      · exact .inr h
      · exact .inl h
    · rintro (h | h)
      · exact .inr h
      · exact .inl h, by rw [List.length_append, List.length_cons]; have := h.len; simp; omega, by
    show vI (oX : Int) (pmul (facS fa) (prodL (S.map facS))) = _
    rw [vI_mul, h.val, ← hf, Int.natCast_mul, Int.mul_comm]⟩
theorem good_of {fs : List (Fa × Bool)} {S : List Fa} {A D G : Nat} (hf : ∀ fb ∈ fs, TurnIn fb) (h1 : 1 ≤ fs.length) (h3 : fs.length ≤ 3) (hS : SPk S (fs.map (·.1)) G)
    (vP : vI (oX : Int) (PQ fs) = A) (vD : vI (oX : Int) (zder (PQ fs)) = D) (H : chk oX oOff oMask A D G = true) : GoodFs fs := by
  obtain ⟨p1, p2, p3, p4, p5, p6⟩ := PQ_facts hf
  have hl := hS.len
  rw [List.length_map] at hl
  have hin : ∀ fa ∈ S, FaIn fa := fun fa hfa => by
    obtain ⟨fb, hfb, rfl⟩ := List.mem_map.mp ((hS.mem fa).mp hfa)
    exact (hf fb hfb).1
  have n64 : 64 ^ fs.length ≤ 64 ^ 3 := Nat.pow_le_pow_right (by decide) h3
  have n8 : 8 ^ S.length ≤ 8 ^ 3 := Nat.pow_le_pow_right (by decide) (by omega)
  have sP : SmL 20 (PQ fs) := fun c hc => by
    have := norm1_mem c hc
    have h2 : 64 ^ 3 < 2 ^ 20 := by decide
    unfold Sm; omega
  have nS := (prodL_facts hin).1
  obtain ⟨last, hg⟩ := chk_ok sP p2 p3 (by omega) (by omega) (show norm1 (prodL (S.map facS)) ≤ 8 ^ 3 by omega) vP vD hS.val H
  exact ⟨S, last, hS.nd, hS.mem, hl, hg⟩
theorem good_all (R : ∀ i j, i ≤ j → j < 52 → ∃ j0 m, j0 ≤ j ∧ j < j0 + m ∧ runC (i, j0, m) = true) {fs : List (Fa × Bool)} (hf : ∀ fb ∈ fs, TurnIn fb) (h1 : 1 ≤ fs.length) (h3 : fs.length ≤ 3) : GoodFs fs := by
  have ll : LOpt.length = 52 := by decide +kernel
  have R2 : ∀ a t b t', (a :: t) <:+ LOpt → (b :: t') <:+ (a :: t) → ∃ m l k, run1 oX oOff oMask (encO oX a).1 (encO oX a).2.1 (encO oX a).2.2 m l = true ∧ k < m ∧ l.drop k = encO oX b :: t'.map (encO oX) := by
    intro a t b t' h h'
    have e := List.suffix_iff_eq_drop.mp h
    have e' := List.suffix_iff_eq_drop.mp (h'.trans h)
    have hl := h.length_le
    have hl' := h'.length_le
    rw [ll] at e e' hl
    rw [List.length_cons] at e e' hl hl'
    rw [List.length_cons] at hl'
    obtain ⟨j0, m, k1, k2, k3⟩ := R (52 - (t.length + 1)) (52 - (t'.length + 1)) (by omega) (by omega)
    refine ⟨m, _, 52 - (t'.length + 1) - j0, runC_unf e.symm k3, by omega, ?_⟩
    rw [← List.map_drop, List.drop_drop, show j0 + (52 - (t'.length + 1) - j0) = 52 - (t'.length + 1) by omega, ← e', List.map_cons]
  have one : ∀ a t, TurnIn a → (a :: t) <:+ LOpt → GoodFs [a] := by
    intro a t ha h
    obtain ⟨m, l, k, r, _, _⟩ := R2 a t a t h (List.suffix_refl _)
    obtain ⟨r, _⟩ := run1_unf r
    obtain ⟨e1, e2, e3⟩ := enc_ok ha
    refine good_of (S := [a.1]) (fun fb hfb => by rw [List.mem_singleton.mp hfb]; exact ha) (by simp) (by simp) ⟨by simp, by simp, by simp, ?_⟩ e2.symm e3.symm r
    show vI (oX : Int) (pmul (facS a.1) [1]) = _
    rw [vI_mul, ← e1]; simp [vI]
  have S1 : ∀ a, TurnIn a → SPk [a.1] [a.1] (encO oX a).1 := fun a ha => ⟨by simp, by simp, by simp, by
    show vI (oX : Int) (pmul (facS a.1) [1]) = _
    rw [vI_mul, ← (enc_ok ha).1]; simp [vI]⟩
  have S2 : ∀ a b, TurnIn a → TurnIn b → ∃ S, SPk S [a.1, b.1] (if (encO oX a).1 = (encO oX b).1 then (encO oX a).1 else (encO oX a).1 * (encO oX b).1) := fun a b ha hb => by
    by_cases h : (encO oX a).1 = (encO oX b).1
    · rw [if_pos h]
      exact ⟨_, (S1 a ha).old (by rw [(enc_inj ha hb).mp h]; simp)⟩
    · rw [if_neg h]
      exact ⟨_, (S1 a ha).new (fun c => h ((enc_inj ha hb).mpr (List.mem_singleton.mp c).symm)) (enc_ok hb).1⟩
  have S3 : ∀ a b c, TurnIn a → TurnIn b → TurnIn c → ∃ S, SPk S [a.1, b.1, c.1] (if (encO oX a).1 = (encO oX c).1 ∨ (encO oX b).1 = (encO oX c).1 then (if (encO oX a).1 = (encO oX b).1 then (encO oX a).1 else (encO oX a).1 * (encO oX b).1) else (if (encO oX a).1 = (encO oX b).1 then (encO oX a).1 else (encO oX a).1 * (encO oX b).1) * (encO oX c).1) := fun a b c ha hb hc => by
    obtain ⟨S, hS⟩ := S2 a b ha hb
    by_cases h : (encO oX a).1 = (encO oX c).1 ∨ (encO oX b).1 = (encO oX c).1
    · rw [if_pos h]
      refine ⟨_, hS.old ?_⟩
      rcases h with h | h
      · rw [← (enc_inj ha hc).mp h]; simp
      · rw [← (enc_inj hb hc).mp h]; simp
    · rw [if_neg h]
      refine ⟨_, hS.new (fun k => h ?_) (enc_ok hc).1⟩
      rcases List.mem_cons.mp k with k | k
      · exact .inl ((enc_inj ha hc).mpr k.symm)
      · exact .inr ((enc_inj hb hc).mpr (List.mem_singleton.mp k).symm)
  have P2 : ∀ a b, TurnIn a → TurnIn b → vI (oX : Int) (PQ [a, b]) = (((encO oX a).2.1 * (encO oX b).2.1 : Nat) : Int) ∧ vI (oX : Int) (zder (PQ [a, b])) = (((encO oX a).2.1 * (encO oX b).2.2 + (encO oX b).2.1 * (encO oX a).2.2 : Nat) : Int) := fun a b ha hb => by
    have e := PQ_cons (fb := a) (fs := [b]) ha.1 (fun g hg => by rw [List.mem_singleton.mp hg]; exact hb.1)
    obtain ⟨_, a1, a2⟩ := enc_ok ha
    obtain ⟨_, b1, b2⟩ := enc_ok hb
    rw [e, vI_mul, vI_dmul, ← a1, ← a2, ← b1, ← b2]
    simp only [Int.natCast_add, Int.natCast_mul]
    exact ⟨trivial, by grind⟩
  have P3 : ∀ a b c, TurnIn a → TurnIn b → TurnIn c → vI (oX : Int) (PQ [a, b, c]) = (((encO oX a).2.1 * (encO oX b).2.1 * (encO oX c).2.1 : Nat) : Int) ∧ vI (oX : Int) (zder (PQ [a, b, c])) = (((encO oX a).2.1 * (encO oX b).2.1 * (encO oX c).2.2 + (encO oX c).2.1 * ((encO oX a).2.1 * (encO oX b).2.2 + (encO oX b).2.1 * (encO oX a).2.2) : Nat) : Int) := fun a b c ha hb hc => by
    have e := PQ_cons (fb := a) (fs := [b, c]) ha.1 (fun g hg => by
      rcases List.mem_cons.mp hg with rfl | hg
      · exact hb.1
      · rw [List.mem_singleton.mp hg]; exact hc.1)
    obtain ⟨_, a1, a2⟩ := enc_ok ha
    obtain ⟨q1, q2⟩ := P2 b c hb hc
    rw [e, vI_mul, vI_dmul, ← a1, ← a2, q1, q2]
    simp only [Int.natCast_add, Int.natCast_mul]
    exact ⟨by grind, by grind⟩
  match fs, hf, h1, h3 with
  | [x], hf, _, _ =>
    have hx := hf x (.head _)
    obtain ⟨s, t, e⟩ := List.append_of_mem (opt_mem hx)
    exact one x t hx ⟨s, e.symm⟩
  | [x, y], hf, _, _ =>
    have hx := hf x (.head _)
    have hy := hf y (.tail _ (.head _))
    obtain ⟨a, b, t, p, q, r⟩ := pair_tail (opt_mem hx) (opt_mem hy)
    have hab : ∀ fb ∈ [a, b], TurnIn fb := fun fb h => hf fb (p.mem_iff.mp h)
    have ha := hab a (.head _)
    have hb := hab b (.tail _ (.head _))
    refine GoodFs.perm hab p ?_
    obtain ⟨s, t', e⟩ := List.append_of_mem r
    obtain ⟨m, l, i, k1, k2, k3⟩ := R2 a t b t' q ⟨s, e.symm⟩
    obtain ⟨k, _⟩ := (run1_unf k1).2 i k2 _ _ k3
    obtain ⟨S, hS⟩ := S2 a b ha hb
    exact good_of hab (by simp) (by simp) hS (P2 a b ha hb).1 (P2 a b ha hb).2 k
  | [x, y, z], hf, _, _ =>
    have hx := hf x (.head _)
    have hy := hf y (.tail _ (.head _))
    have hz := hf z (.tail _ (.tail _ (.head _)))
    obtain ⟨a, t, b, t', c, p, q, r, m⟩ := triple_tail (opt_mem hx) (opt_mem hy) (opt_mem hz)
    have hab : ∀ fb ∈ [a, b, c], TurnIn fb := fun fb h => hf fb (p.mem_iff.mp h)
    have ha := hab a (.head _)
    have hb := hab b (.tail _ (.head _))
    have hc := hab c (.tail _ (.tail _ (.head _)))
    refine GoodFs.perm hab p ?_
    obtain ⟨n, l, i, k1, k2, k3⟩ := R2 a t b t' q r
    obtain ⟨_, k⟩ := (run1_unf k1).2 i k2 _ _ k3
    have k := k (encO oX c) (by rw [← List.map_cons]; exact List.mem_map_of_mem m)
    obtain ⟨S, hS⟩ := S3 a b c ha hb hc
    exact good_of hab (by simp) (by simp) hS (P3 a b c ha hb hc).1 (P3 a b c ha hb hc).2 k
  | [], _, h, _ => simp at h
  | _ :: _ :: _ :: _ :: _, _, _, h => simp at h
end Mine
end

section
open PySem PySem.W PyProof.Rows PySem.Calls
set_option exponentiation.threshold 600
namespace Mine

theorem lawOk_of (R : ∀ i j, i ≤ j → j < 52 → ∃ j0 m, j0 ≤ j ∧ j < j0 + m ∧ runC (i, j0, m) = true) (st : DS) : LawOk (polyOf (madeS st).1.1 (madeS st).1.2) (rootsOf (madeS st).1.2) := by
  obtain ⟨hc, h1, h3, hok⟩ := madeS_ok st
  have hT := madeS_in st
  generalize (madeS st).1.1 = c at *
  generalize (madeS st).1.2 = fs at *
  have hF : ∀ fb ∈ fs, FaIn fb.1 := fun fb h => (hT fb h).1
  have c0 : c ≠ 0 := by omega
  have c3 : c.natAbs ≤ 3 := by omega
  obtain ⟨S, last, nd, mem, len, g⟩ := good_all R hT h1 h3
  obtain ⟨p1, p2, p3, p4, p5, p6⟩ := PQ_facts hT
  have hfp : polyOf c fs = (PQ fs).map (c * ·) := polyOf_eq c0 hF
  obtain ⟨t1, t2⟩ := tr_polyOf c0 hF
  have n64 : 64 ^ fs.length ≤ 64 ^ 3 := Nat.pow_le_pow_right (by decide) h3
  have sP : SmL 20 (PQ fs) := fun d hd => by
    have := norm1_mem d hd
    have h2 : 64 ^ 3 < 2 ^ 20 := by decide
    unfold Sm; omega
  have hins : ∀ fa ∈ S, FaIn fa := fun fa hfa => by
    obtain ⟨fb, hfb, rfl⟩ := List.mem_map.mp ((mem fa).mp hfa)
    exact hF fb hfb
  obtain ⟨g1, g2, g3, g4, g5⟩ := prodL_facts hins
  have el : lastP (PQ fs) = last := g.run.lastOk
  have hrel : ∀ x, ev (PQ fs) x = ev (if (lastP (PQ fs)).length > 1 then zprim (lastP (PQ fs)) else [1]) x * ev (prodL (S.map facS)) x := fun x => by
    rw [el]
    by_cases hl : last.length > 1
    · rw [if_pos hl]; exact (g.long hl).2 x
    · rw [if_neg hl, g.short (by omega)]
      have : ev [1] x = 1 := by simp [ev]; grind
      rw [this]; grind
  have hH : Tr (if (lastP (PQ fs)).length > 1 then zprim (lastP (PQ fs)) else [1]) ∧ (if (lastP (PQ fs)).length > 1 then zprim (lastP (PQ fs)) else [1]) ≠ [] := by
    rw [el]
    by_cases hl : last.length > 1
    · rw [if_pos hl]
      refine ⟨(g.long hl).1, fun e => ?_⟩
      have := zprim_len last
      rw [e] at this; simp at this; omega
    · rw [if_neg hl]
      exact ⟨fun _ => by simp [lead], by simp⟩
  obtain ⟨κ, k0, k3, hs⟩ := simpleS_mul c0 (by omega) p2 g.one p3 rfl hH.1 hH.2 g3 hrel
  rw [← hfp] at hs
  have L : Lf3 S (simpleS (polyOf c fs)) := by
    rw [hs]
    exact ⟨hins, nd, by omega, tr_map (by simp) g3 (fun d _ hd => Int.mul_ne_zero k0 hd), by simpa using g2, κ, k0, by omega, fun x => (ev_map κ _ x).1⟩
  have so : SimpleOk (polyOf c fs) := by
    rw [hfp]
    exact simpleOk_of c0 c3 (by omega) (by omega) p2 sP g.one p3 g.run g3 (fun hl => (g.long hl).2) (by have := g.len; omega) (g.sm.mono (by omega)) g.tr g.ne
  obtain ⟨HT, hm⟩ := told_perm hF nd mem
  have sf : SmL 22 (polyOf c fs) := by
    rw [hfp]
    intro x hx
    obtain ⟨d, hd, rfl⟩ := List.mem_map.mp hx
    have c2 : Sm 2 c := by unfold Sm; omega
    exact (c2.mul (sP d hd)).mono (by omega)
  obtain ⟨b1, b2, b3⟩ := rootBound_facts t1 t2 sf
  obtain ⟨r1, r2⟩ := rootsOf_ok fs hok
  have hB : (3 : Rat) ≤ ((rootBound (polyOf c fs) : Int) : Rat) := Rat.intCast_le_intCast (a := 3) |>.mpr b1
  have hcut := cut_bound L.lf hB (fun x hx e => b3 x hx (by
    rw [hs, (ev_map κ _ x).1] at e
    have k0' : (κ : Rat) ≠ 0 := fun h => k0 (Rat.intCast_inj.mp h)
    have e2 : ev (prodL (S.map facS)) x = 0 := (Rat.mul_eq_zero.mp e).resolve_left k0'
    rw [hfp, (ev_map c _ x).1, hrel, e2]; grind))
  have q1 : qv (-rootBound (polyOf c fs), 1) = -((rootBound (polyOf c fs) : Int) : Rat) := by rw [qv_one, Rat.intCast_neg]
  have q2 : qv (rootBound (polyOf c fs), 1) = ((rootBound (polyOf c fs) : Int) : Rat) := qv_one _
  have hlf := L.lf
  have hr := rootsL_in L.ins
  refine ⟨so, rowOk_of L, by rw [hfp, List.length_map]; omega, t1, t2 t1, sf.mono (by omega), r1, by omega, iso_field (fun S h L => rowOk_of L) L HT hm, ?_, fun p q hp hq => query_field hlf HT hm hp hq, ?_, ?_, ?_, ?_⟩
  · rw [hm.length_eq]; exact count_far hlf.known hr
  · unfold Sm
    have e22 : (2 : Int) ^ 22 = 4194304 := by decide
    have e900 : 2 ^ 23 ≤ 2 ^ 900 := Nat.pow_le_pow_right (by decide) (by decide)
    omega
  · exact changes_low hlf.known hr (show (0 : Int) < 1 by decide) (fun r h => by rw [q1]; exact (hcut r h).1)
  · exact changes_high hlf.known hr (show (0 : Int) < 1 by decide) (fun r h => by rw [q2, (hcut r h).2]; decide)
  · rw [counted_cnt HT.1 (red_one _) (red_one _), q1, q2]
    rw [cnt_all fun r h => by
      obtain ⟨a, b⟩ := hcut r (hm.mem_iff.mp h)
      exact ⟨a, by rw [b]; decide⟩]
end Mine
end

section
namespace Mine
set_option maxRecDepth 100000
theorem run_0 : (chunks.getD 0 []).all runC = true := by decide +kernel
theorem run_1 : (chunks.getD 1 []).all runC = true := by decide +kernel
theorem run_2 : (chunks.getD 2 []).all runC = true := by decide +kernel
theorem run_3 : (chunks.getD 3 []).all runC = true := by decide +kernel
theorem run_4 : (chunks.getD 4 []).all runC = true := by decide +kernel
theorem run_5 : (chunks.getD 5 []).all runC = true := by decide +kernel
theorem run_6 : (chunks.getD 6 []).all runC = true := by decide +kernel
theorem run_7 : (chunks.getD 7 []).all runC = true := by decide +kernel
theorem run_8 : (chunks.getD 8 []).all runC = true := by decide +kernel
theorem run_9 : (chunks.getD 9 []).all runC = true := by decide +kernel
theorem run_10 : (chunks.getD 10 []).all runC = true := by decide +kernel
theorem run_11 : (chunks.getD 11 []).all runC = true := by decide +kernel
theorem run_12 : (chunks.getD 12 []).all runC = true := by decide +kernel
theorem run_13 : (chunks.getD 13 []).all runC = true := by decide +kernel
theorem run_14 : (chunks.getD 14 []).all runC = true := by decide +kernel
theorem run_15 : (chunks.getD 15 []).all runC = true := by decide +kernel
theorem runs_in : ∀ n, n < 16 → (chunks.getD n []).all runC = true := by
  intro n hn
  rcases Nat.lt_or_ge n 8 with h | h
  · rcases Nat.lt_or_ge n 4 with h | h
    · obtain rfl | rfl | rfl | rfl : n = 0 ∨ n = 1 ∨ n = 2 ∨ n = 3 := by omega
      · exact run_0
      · exact run_1
      · exact run_2
      · exact run_3
    · obtain rfl | rfl | rfl | rfl : n = 4 ∨ n = 5 ∨ n = 6 ∨ n = 7 := by omega
      · exact run_4
      · exact run_5
      · exact run_6
      · exact run_7
  · rcases Nat.lt_or_ge n 12 with h | h
    · obtain rfl | rfl | rfl | rfl : n = 8 ∨ n = 9 ∨ n = 10 ∨ n = 11 := by omega
      · exact run_8
      · exact run_9
      · exact run_10
      · exact run_11
    · obtain rfl | rfl | rfl | rfl : n = 12 ∨ n = 13 ∨ n = 14 ∨ n = 15 := by omega
      · exact run_12
      · exact run_13
      · exact run_14
      · exact run_15
theorem covered : ∀ i, i < 52 → ∀ j, j < 52 → i ≤ j → ∃ n, n < 16 ∧ ((chunks.getD n []).any fun c => Nat.beq c.1 i && Nat.ble c.2.1 j && Nat.blt j (c.2.1 + c.2.2)) = true := by
  decide +kernel
theorem runs : ∀ i j, i ≤ j → j < 52 → ∃ j0 m, j0 ≤ j ∧ j < j0 + m ∧ runC (i, j0, m) = true := by
  intro i j hij hj
  obtain ⟨n, hn, h⟩ := covered i (Nat.lt_of_le_of_lt hij hj) j hj hij
  obtain ⟨⟨i', j0, m⟩, hc, h⟩ := List.any_eq_true.mp h
  obtain ⟨h12, h3⟩ := Bool.and_eq_true_iff.mp h
  obtain ⟨h1, h2⟩ := Bool.and_eq_true_iff.mp h12
  have e : i' = i := Nat.eq_of_beq_eq_true h1
  have r := List.all_eq_true.mp (runs_in n hn) _ hc
  rw [e] at r
  exact ⟨j0, m, Nat.le_of_ble_eq_true h2, Nat.le_of_ble_eq_true h3, r⟩
end Mine
end

section
open PySem PySem.W PyProof.Rows
set_option maxRecDepth 100000
namespace Mine

noncomputable def YP0 (h : Heap) : Prop := (∀ x ∈ usedB, h.nsMap mainGlobals x = none) ∧ h.nsMap mainGlobals "HALF" = some (.ref 278) ∧ h.get? 278 = some (tupObj [.int 1 545, .int 2 546] 0)
theorem yp_of {s : Shared} (h : seenB s = goodB) : YP0 s.heap :=
  ⟨fun x hx => Option.isNone_iff_eq_none.mp (List.all_eq_true.mp (congrArg Prod.fst h) x hx), congrArg (fun p => p.2.1) h, congrArg (fun p => p.2.2) h⟩
theorem nsMap_keep {h h' : Heap} (k : ∀ b o, h.get? b = some o → h'.get? b = some o) {x : Str} {v : Value} (e : h.nsMap mainGlobals x = some v) (y : Str) : h'.nsMap mainGlobals y = h.nsMap mainGlobals y := by
  unfold Heap.nsMap at *
  cases q : h.get? mainGlobals with
  | none => rw [q] at e; cases e
  | some o => rw [k _ _ q]
theorem yp_keeps {h h' : Heap} (Y : YP0 h) (k : ∀ b o, h.get? b = some o → h'.get? b = some o) : YP0 h' :=
  ⟨fun x hx => by rw [nsMap_keep k Y.2.1]; exact Y.1 x hx, by rw [nsMap_keep k Y.2.1]; exact Y.2.1, k _ _ Y.2.2⟩
theorem ns_map {h : Heap} {mg : Str → Option Value} (G : h.Ns mainGlobals mg) (x : Str) : mg x = h.nsMap mainGlobals x := by
  obtain ⟨o, es, ep, h1, h2, _, h4⟩ := G
  unfold Heap.nsMap
  rw [h1, ← h4 x]
  simp only [h2]
theorem gok_of2 {view : Program} {loose : List Str} {mean : ExcName → Option Value} {mg mb : Str → Option Value} {h : Heap} (TT : Top view loose mean mg mb h) (Y : YP0 h)
    (c1 : PySem.Challenge.pw_nn0275_01.main.body.filterMap defOf = recsOf view) : GOk mg mb h where
  g := TT.g
  b := TT.b
  builtins := TT.builtins
  nolimit := TT.nolimit
  free := fun x hx => by rw [ns_map TT.g]; exact Y.1 x hx
  fn := fun n a b sc hf => by
    obtain ⟨i, dl, r, tp, ts, bd, pos, e⟩ := hf
    exact (TT.fn ⟨n, a, b, sc, pos⟩ (by rw [← c1]; exact List.mem_filterMap.mpr ⟨_, List.mem_of_getElem? e, rfl⟩)).imp fun f h => h
  half := ⟨278, 545, 546, 0, by rw [ns_map TT.g]; exact Y.2.1, Y.2.2⟩
noncomputable def lawRec : DefRec := ((PySem.Challenge.pw_nn0275_01.main.body.drop 67).filterMap defOf).headD ⟨"", default, [], default, default⟩
theorem hdef0 : PySem.W.defOf view0 PySem.Challenge.rw_nn0275_01.row.name = some (lawRec, []) := by kernel_rfl
theorem hp0 : PySem.Challenge.rw_nn0275_01.row.prog.theDef PySem.Challenge.rw_nn0275_01.row.name = some (lawRec.params, lawRec.body, lawRec.scope) := by kernel_rfl
theorem hk0 : kwWritten? lawRec.params.kwonlyargs lawRec.params.kw_defaults = some [] := by kernel_rfl
theorem c1_0 : PySem.Challenge.pw_nn0275_01.main.body.filterMap defOf = recsOf view0 := by kernel_rfl
end Mine
end

section
open PySem PySem.W PyProof.Rows
set_option maxRecDepth 100000
namespace Mine
theorem ok1 : chainsOk view0 = true := by kernel_rfl
theorem ok2 : opensWell PySem.Challenge.rw_nn0275_01.row.prog = true := by kernel_rfl
theorem ok3 : (frees PySem.Challenge.rw_nn0275_01.row.toRowW && PySem.Challenge.rw_nn0275_01.row.toRowW.within.isEmpty) = true := by kernel_rfl
theorem ok4 : PySem.Challenge.rw_nn0275_01.row.prog.bare := ⟨rfl, rfl, rfl, rfl, rfl, by decide +kernel⟩
set_option maxHeartbeats 2000000 in
set_option profiler true in
theorem tt2 (H : ∀ st : DS, LawOk (polyOf (madeS st).1.1 (madeS st).1.2) (rootsOf (madeS st).1.2)) : PySem.Challenge.rw_nn0275_01.Holds := by
  w_on
  refine holds_law said0 fun said => ?_
  refine PySem.W.holds_open (r := PySem.Challenge.rw_nn0275_01.row) (d := lawRec) (kwd := []) (q := view0) (loose := []) (Xt := xt0) (XP := XL view0 []) (Yf := seenB) (Ya := fun _ => goodB) (YP := fun _ h => YP0 h) (N := 4212) left0 (fun w s e => yp_of e) (fun w h h' Y k => yp_keeps Y k)
    (fun s e => xl_of s (Bool.and_eq_true_iff.mp e).1) XL.keeps hdef0 hp0 hk0 (fun s e => recFacts_of (Bool.and_eq_true_iff.mp e).2) rfl said (by rw [ok1, ok2, ok3]; rfl) ok4 ?hw ?hc
  case hw => w_witness2
  intro w s₀ s₁ mg mb G Y fa o pm cd doc dV kV ho hd hcd hD hmg hg args vals as hpre hlay hrd hwl hlo
  refine Ground.open G ?_
  intro T B D TE TW
  try (refine guard_noD D (by decide +kernel) ?_; clear D)
  have G0 : GOk mg mb s₁.heap := gok_of2 T Y c1_0
  have hlaw := hmg
  wrow_args hpre hlay hrd hwl hlo
  all_goals (
    first | refine callC_kw (enter_call ?_) | refine enter_call ?_ | refine callC_kw (enter_callW ?_) | refine enter_callW ?_ | w_how
    w_top on
    with_reducible rename Well _ _ _ _ => hw
    rename_i hlen _
    refine codeAny_mono ?_ (fun _ _ g => GoodW.toG g)
    refine link (Γ := ⟨mg, mb, s₁.heap, PySem.Challenge.rw_nn0275_01.row.prog, w⟩) (s := s₁) ?_ H rfl G0 hlaw hw ?_
    · exact Int.ofNat_le.mp (Int.not_lt.mp hlen)
    · intro h' tk hk
      refine ⟨.inl ⟨_, .bool true, [], rfl, fun cls => ?_, .bool true, ?_, ?_⟩, hk, rfl, hg⟩
      · rfl
      · show (WShape.has [] (.bool true) .bool && _) = true
        rw [Bool.and_eq_true]
        constructor
        · with_unfolding_all rfl
        · first | (with_unfolding_all rfl) | (simp only [PySem.Challenge.rw_nn0275_01, OpenLaw.row]; with_unfolding_all rfl)
      · intro h; exact ⟨.nil, fun a h => nomatch h⟩)
end Mine
end

theorem PySem.Challenge.cw_nn0275_01_holds : PySem.Challenge.rw_nn0275_01.Holds :=
  Mine.tt2 (Mine.lawOk_of Mine.runs)
