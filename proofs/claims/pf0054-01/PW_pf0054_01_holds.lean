import PyProof.Rows.All
import Wide.All
import OpenK.AllK
import Wide.FinOn
import PySem.Challenge.RW_pf0054_01
set_option Elab.async false
set_option maxRecDepth 100000
set_option maxHeartbeats 8000000
set_option linter.unusedVariables false
set_option linter.unusedSimpArgs false
set_option genSizeOfSpec false
set_option genInjectivity false
namespace Pf
open PySem PySem.Calls PyProof.Rows PySem.W
/- ---- the head: the top, run by the kernel at once; it stands first, while the memory is still free ---- -/
abbrev D := PyData
noncomputable def rdHs (f : Value → Option D) : List Value → Option (List D)
  | [] => some []
  | v :: vs => match f v with
    | some d => (match rdHs f vs with | some ds => some (d :: ds) | none => none)
    | none => none
noncomputable def rdH (h : Heap) : Nat → Value → Option D
  | 0, .int i _ => some (.int i)
  | n + 1, .ref a => (match h.get? a with
    | some ⟨.type "tuple", .none, .seq vs c, ⟨[]⟩⟩ => (match rdHs (rdH h n) vs.toList with | some ds => some (.tuple ds) | none => none)
    | _ => none)
  | _, _ => none
/-- what is seen of the heap behind the top, besides the head's own facts -/
noncomputable def monAt (h : Heap) : Bool := match h.nsMap mainGlobals "_law_monic" with
  | some (.ref f) => (match h.get? f with
    | some ⟨_, _, .func fd, _⟩ => (match fd.code with
      | .ref c => Nat.beq c 343 && (match h.get? 343 with
        | some ⟨_, _, .fields vs, _⟩ => (match (vs[11]? : Option Value) with | some (.ref P) => Nat.beq P 341 | _ => false)
        | _ => false)
      | _ => false)
    | _ => false)
  | _ => false
noncomputable def pairsAt (h : Heap) : Option D := match h.nsMap mainGlobals "_law_pairs" with | some v => rdH h 2 v | none => none
noncomputable def Yo (s : Shared) : Bool × Option D := (s.heap.isNs mainGlobals && monAt s.heap, pairsAt s.heap)
noncomputable def thePairs : List (Nat × Nat) := [(2, 1), (2, 2), (3, 1), (2, 3), (5, 1), (3, 2)]
noncomputable def pairsD : D := .tuple (thePairs.map fun q => .tuple [.int q.1, .int q.2])
noncomputable def Yv (w : World) : Bool × Option D := (true, some pairsD)
noncomputable def keepL : List Nat := [1, 2, 3, 4, 6, 7, 8, 9, 10, 11, 12, 13, 14, 15, 16, 17, 18, 19, 20, 21, 22, 24, 25, 26, 28, 29, 30, 31, 32, 33, 34, 35, 36, 37, 38, 40, 41, 42, 43, 44, 46, 47, 48, 49, 50, 51, 52, 54, 55, 56, 57, 58, 59, 60]
noncomputable def qL : Program := view PySem.Challenge.pw_pf0054_01 keepL
theorem said : PySem.Challenge.rw_pf0054_01.wellSaid = true := by
  unfold OpenLaw.wellSaid OpenRow.wellSaid OpenRow.partSaid looksOpen
  repeat' with_reducible refine look_both ?_ ?_
  all_goals decide +kernel
/- the library's quick forms of topRun, importEnds, fenceModules? and openSeen stand in their places -/
theorem leftL : LeftO PySem.Challenge.rw_pf0054_01.row.prog qL [] (fun s => recOk [] s) Yo Yv 3598 := by
  intro w
  unfold openEnds fencedOpening topFrom
  rw [PySem.W.Fast.te14082659384304107361, PySem.W.Fast.te10274390034422433532, PySem.W.Fast.te14289696077712309145, PySem.W.Fast.te4187177175401517315]
  kernel_rfl
end Pf

namespace Pf
open PySem PySem.Calls PyProof.Rows

/- ---- plain data, read off the heap ---- -/
abbrev AS := Addr → Prop
abbrev lobj (vs : Array Value) (n : Nat) : Obj := { cls := .type "list", dict := none, data := .seq vs n, slots := #[] }
abbrev tobj (vs : Array Value) (n : Nat) : Obj := { cls := .type "tuple", dict := none, data := .seq vs n, slots := #[] }

mutual
inductive Rd (X : AS) (h : Heap) : Value → D → Prop
  | none : Rd X h .none .none
  | bool (b) : Rd X h (.bool b) (.bool b)
  | int (i t) : Rd X h (.int i t) (.int i)
  | list {a vs n ds} : ¬ X a → h.get? a = some (lobj vs n) → Rds X h vs.toList ds → Rd X h (.ref a) (.list ds)
  | tuple {a vs n ds} : ¬ X a → h.get? a = some (tobj vs n) → Rds X h vs.toList ds → Rd X h (.ref a) (.tuple ds)
inductive Rds (X : AS) (h : Heap) : List Value → List D → Prop
  | nil : Rds X h [] []
  | cons {v vs d ds} : Rd X h v d → Rds X h vs ds → Rds X h (v :: vs) (d :: ds)
end

mutual
theorem Rd.mono {X X' : AS} {h h' : Heap} (hx : ∀ a, X' a → X a) (hk : ∀ b o, ¬ X b → h.get? b = some o → h'.get? b = some o) : ∀ {v d}, Rd X h v d → Rd X' h' v d
  | _, _, .none => .none
  | _, _, .bool b => .bool b
  | _, _, .int i t => .int i t
  | _, _, .list hn hg hs => .list (fun q => hn (hx _ q)) (hk _ _ hn hg) (hs.mono hx hk)
  | _, _, .tuple hn hg hs => .tuple (fun q => hn (hx _ q)) (hk _ _ hn hg) (hs.mono hx hk)
theorem Rds.mono {X X' : AS} {h h' : Heap} (hx : ∀ a, X' a → X a) (hk : ∀ b o, ¬ X b → h.get? b = some o → h'.get? b = some o) : ∀ {v d}, Rds X h v d → Rds X' h' v d
  | _, _, .nil => .nil
  | _, _, .cons h1 h2 => .cons (h1.mono hx hk) (h2.mono hx hk)
end
theorem Rd.sub {X X' : AS} {h : Heap} {v d} (r : Rd X h v d) (hx : ∀ a, X' a → X a) : Rd X' h v d := r.mono hx fun _ _ _ e => e
theorem Rds.sub {X X' : AS} {h : Heap} {v d} (r : Rds X h v d) (hx : ∀ a, X' a → X a) : Rds X' h v d := r.mono hx fun _ _ _ e => e
theorem Rd.kept {X : AS} {h h' : Heap} {v d} (r : Rd X h v d) (hk : ∀ b o, h.get? b = some o → h'.get? b = some o) : Rd X h' v d := r.mono (fun _ q => q) fun b o _ e => hk b o e
theorem Rds.kept {X : AS} {h h' : Heap} {v d} (r : Rds X h v d) (hk : ∀ b o, h.get? b = some o → h'.get? b = some o) : Rds X h' v d := r.mono (fun _ q => q) fun b o _ e => hk b o e

mutual
theorem Rd.avoid {X : AS} {h : Heap} {Y : AS} (hy : ∀ a o, Y a → h.get? a = some o → X a) : ∀ {v d}, Rd X h v d → Rd (fun a => X a ∨ Y a) h v d
  | _, _, .none => .none
  | _, _, .bool b => .bool b
  | _, _, .int i t => .int i t
  | _, _, .list hn hg hs => .list (fun q => q.elim hn fun y => hn (hy _ _ y hg)) hg (hs.avoid hy)
  | _, _, .tuple hn hg hs => .tuple (fun q => q.elim hn fun y => hn (hy _ _ y hg)) hg (hs.avoid hy)
theorem Rds.avoid {X : AS} {h : Heap} {Y : AS} (hy : ∀ a o, Y a → h.get? a = some o → X a) : ∀ {v d}, Rds X h v d → Rds (fun a => X a ∨ Y a) h v d
  | _, _, .nil => .nil
  | _, _, .cons h1 h2 => .cons (h1.avoid hy) (h2.avoid hy)
end

theorem Rds.fresh {X : AS} {h : Heap} {vs ds} (r : Rds X h vs ds) {a : Addr} (hn : h.get? a = Option.none) : Rds (fun b => X b ∨ b = a) h vs ds :=
  r.avoid (Y := fun b => b = a) fun b o e ho => by rw [e, hn] at ho; cases ho
theorem Rd.fresh {X : AS} {h : Heap} {v d} (r : Rd X h v d) {a : Addr} (hn : h.get? a = Option.none) : Rd (fun b => X b ∨ b = a) h v d :=
  r.avoid (Y := fun b => b = a) fun b o e ho => by rw [e, hn] at ho; cases ho
theorem Rds.length {X : AS} {h : Heap} : ∀ {vs ds}, Rds X h vs ds → vs.length = ds.length
  | _, _, .nil => rfl
  | _, _, .cons _ r => by simp [r.length]
theorem Rds.get {X : AS} {h : Heap} : ∀ {vs ds}, Rds X h vs ds → ∀ {i : Nat} {d : D}, ds[i]? = some d → ∃ v, vs[i]? = some v ∧ Rd X h v d
  | _, _, .cons h1 _, 0, _, e => ⟨_, rfl, by simp at e; exact e ▸ h1⟩
  | _, _, .cons _ r, i + 1, _, e => by
    obtain ⟨v, h1, h2⟩ := r.get (i := i) (by simpa using e)
    exact ⟨v, by simpa using h1, h2⟩
theorem Rds.append {X : AS} {h : Heap} : ∀ {vs ds ws es}, Rds X h vs ds → Rds X h ws es → Rds X h (vs ++ ws) (ds ++ es)
  | _, _, _, _, .nil, r => r
  | _, _, _, _, .cons h1 h2, r => .cons h1 (h2.append r)
theorem Rds.take {X : AS} {h : Heap} : ∀ (n : Nat) {vs ds}, Rds X h vs ds → Rds X h (vs.take n) (ds.take n)
  | 0, _, _, _ => by simp; exact .nil
  | _ + 1, _, _, .nil => by simp; exact .nil
  | n + 1, _, _, .cons h1 h2 => by simp; exact .cons h1 (h2.take n)
theorem Rds.drop {X : AS} {h : Heap} : ∀ (n : Nat) {vs ds}, Rds X h vs ds → Rds X h (vs.drop n) (ds.drop n)
  | 0, _, _, r => by simpa using r
  | _ + 1, _, _, .nil => by simp; exact .nil
  | n + 1, _, _, .cons _ h2 => by simpa using h2.drop n
theorem Rds.set {X : AS} {h : Heap} : ∀ (i : Nat) {vs ds v d}, Rds X h vs ds → Rd X h v d → Rds X h (vs.set i v) (ds.set i d)
  | _, _, _, _, _, .nil, _ => by simp; exact .nil
  | 0, _, _, _, _, .cons _ h2, r => by simp; exact .cons r h2
  | i + 1, _, _, _, _, .cons h1 h2, r => by simp; exact .cons h1 (h2.set i r)
theorem Rds.eraseIdx {X : AS} {h : Heap} : ∀ (i : Nat) {vs ds}, Rds X h vs ds → Rds X h (vs.eraseIdx i) (ds.eraseIdx i)
  | _, _, _, .nil => by simp; exact .nil
  | 0, _, _, .cons _ h2 => by simpa using h2
  | i + 1, _, _, .cons h1 h2 => by simp; exact .cons h1 (h2.eraseIdx i)
theorem Rds.reverse {X : AS} {h : Heap} : ∀ {vs ds}, Rds X h vs ds → Rds X h vs.reverse ds.reverse
  | _, _, .nil => .nil
  | _, _, .cons h1 h2 => by simp; exact h2.reverse.append (.cons h1 .nil)
theorem Rds.filterMapIdx {X : AS} {h : Heap} {vs ds} (r : Rds X h vs ds) : ∀ (is : List Nat), Rds X h (is.filterMap (vs[·]?)) (is.filterMap (ds[·]?))
  | [] => .nil
  | i :: is => by
    cases e : ds[i]? with
    | none =>
      have : vs[i]? = none := by rw [List.getElem?_eq_none_iff] at e ⊢; rw [r.length]; exact e
      simp [e, this]; exact r.filterMapIdx is
    | some d =>
      obtain ⟨v, hv, hr⟩ := r.get e
      simp [e, hv]; exact .cons hr (r.filterMapIdx is)
theorem Rds.replicate {X : AS} {h : Heap} {vs ds} (r : Rds X h vs ds) : ∀ (n : Nat), Rds X h (List.replicate n vs).flatten (List.replicate n ds).flatten
  | 0 => .nil
  | n + 1 => by simp [List.replicate_succ]; exact r.append (r.replicate n)

mutual
theorem Rd.reads {X : AS} {h : Heap} : ∀ {v d}, Rd X h v d → ∃ as, Reads h v d as
  | _, _, .none => ⟨_, .none⟩
  | _, _, .bool b => ⟨_, .bool b⟩
  | _, _, .int i t => ⟨_, .int i t⟩
  | _, _, .list _ hg hs => let ⟨_, r⟩ := hs.reads; ⟨_, .list hg rfl rfl r⟩
  | _, _, .tuple _ hg hs => let ⟨_, r⟩ := hs.reads; ⟨_, .tuple hg rfl rfl r⟩
theorem Rds.reads {X : AS} {h : Heap} : ∀ {v d}, Rds X h v d → ∃ as, ReadsAll h v d as
  | _, _, .nil => ⟨_, .nil⟩
  | _, _, .cons h1 h2 => let ⟨_, r⟩ := h1.reads; let ⟨_, q⟩ := h2.reads; ⟨_, .cons r q⟩
end

/-- read, where the list itself may be one that is owned (its items may not) -/
noncomputable def RdB (X : AS) (h : Heap) (v : Value) (d : D) : Prop :=
  Rd X h v d ∨ ∃ a vs n ds, v = .ref a ∧ d = .list ds ∧ h.get? a = some (lobj vs n) ∧ Rds X h vs.toList ds
theorem Rd.b {X : AS} {h : Heap} {v d} (r : Rd X h v d) : RdB X h v d := .inl r
theorem RdB.list {X : AS} {h : Heap} {v : Value} {ds : List D} (r : RdB X h v (.list ds)) : ∃ a vs n, v = .ref a ∧ h.get? a = some (lobj vs n) ∧ Rds X h vs.toList ds := by
  rcases r with r | ⟨a, vs, n, ds', rfl, e, hg, hs⟩
  · cases r with | list _ hg hs => exact ⟨_, _, _, rfl, hg, hs⟩
  · cases e; exact ⟨_, _, _, rfl, hg, hs⟩
theorem RdB.kept {X : AS} {h h' : Heap} {v d} (r : RdB X h v d) (hk : ∀ b o, h.get? b = some o → h'.get? b = some o) : RdB X h' v d :=
  r.imp (fun r => r.kept hk) fun ⟨a, vs, n, ds, e1, e2, hg, hs⟩ => ⟨a, vs, n, ds, e1, e2, hk _ _ hg, hs.kept hk⟩
theorem RdB.free {X : AS} {h : Heap} {v d} (r : RdB X h v d) : Rd (fun _ => False) h v d := by
  rcases r with r | ⟨a, vs, n, ds, rfl, rfl, hg, hs⟩
  · exact r.sub fun _ q => q.elim
  · exact .list (fun q => q) hg (hs.sub fun _ q => q.elim)
noncomputable def flat : D → Bool
  | .none | .bool _ | .int _ => true
  | _ => false
theorem Rd.flat {X Y : AS} {h : Heap} {v d} (r : Rd X h v d) (hf : flat d = true) : Rd Y h v d := by
  cases r with
  | none => exact .none
  | bool b => exact .bool b
  | int i t => exact .int i t
  | list => cases hf
  | tuple => cases hf

/- ---- a frame: its locals and its cells ---- -/
structure FrameOk (env : Env) (names : List Str) (h : Heap) (ρ : Str → Option Value) : Prop where
  ns : ∃ m, h.Ns env.locals m ∧ ∀ x, env.kindOf x = some .local → m x = ρ x
  cell : ∀ x c, x ∈ names → env.kindOf x ≠ some .local → env.cells.lookup x = some c → h.IsCell c (ρ x)

theorem FrameOk.kept {env : Env} {names : List Str} {h h' : Heap} {ρ} (F : FrameOk env names h ρ) (hk : ∀ b o, h.get? b = some o → h'.get? b = some o) : FrameOk env names h' ρ :=
  ⟨let ⟨m, hn, e⟩ := F.ns; ⟨m, hn.keeps hk, e⟩, fun x c hm hx hc => (F.cell x c hm hx hc).keeps hk⟩
/-- a change of lists alone leaves the frame as it is -/
theorem FrameOk.upd {env : Env} {names : List Str} {h h' : Heap} {ρ} {a : Addr} {vs n} (F : FrameOk env names h ρ) (ha : h.get? a = some (lobj vs n)) (hk : ∀ b o, b ≠ a → h.get? b = some o → h'.get? b = some o) : FrameOk env names h' ρ := by
  obtain ⟨m, ⟨o, es, ep, ho, hd, hr⟩, e⟩ := F.ns
  refine ⟨⟨m, ⟨o, es, ep, hk _ _ (fun q => ?_) ho, hd, hr⟩, e⟩, fun x c hm hx hc => ?_⟩
  · rw [q, ha] at ho; cases ho; cases hd
  · obtain ⟨o, ho, hd⟩ := F.cell x c hm hx hc
    exact ⟨o, hk _ _ (fun q => by rw [q, ha] at ho; cases ho; cases hd) ho, hd⟩

noncomputable def upd (ρ : Str → Option Value) (x : Str) (v : Value) : Str → Option Value := fun y => if y = x then some v else ρ y

structure Gx where
  prog : Program
  w : World
  defs : List DefRec
  mg : Str → Option Value
  mb : Str → Option Value
  h0 : Heap
/-- what is asked of the top -/
structure Tp (G : Gx) (h : Heap) : Prop where
  g : h.Ns mainGlobals G.mg
  b : h.Ns builtinsNs G.mb
  nolimit : h.NoLimit
  fn : ∀ d ∈ G.defs, ∃ a o pm code doc, G.mg d.name = some (.ref a) ∧ h.get? a = some o ∧ o.data = .func (docDef d.name d.params d.body d.scope pm code doc) ∧ h.CodeRec code d.name
  builtins : ∀ x : Str, x ≠ "__name__" → G.mb x = bootBuiltins x
theorem Tp.keeps {G : Gx} {h h' : Heap} (T : Tp G h) (hk : ∀ b o, h.get? b = some o → h'.get? b = some o) : Tp G h' :=
  ⟨T.g.keeps hk, T.b.keeps hk, T.nolimit.keeps hk, fun d hd => let ⟨a, o, pm, code, doc, h1, h2, h3, h4⟩ := T.fn d hd; ⟨a, o, pm, code, doc, h1, hk _ _ h2, h3, h4.keeps hk⟩, T.builtins⟩
abbrev Gx.T (G : Gx) (h : Heap) : Prop := Tp G h
noncomputable def bltNames : List Str := ["len", "list", "max", "range", "enumerate", "zip", "sorted", "int", "abs", "any", "sum"]
structure Gx.Ok (G : Gx) : Prop where
  T : G.T G.h0
  blt : ∀ x ∈ bltNames, G.mg x = none

/-- names: the frame's own variables first (ro of them), then those it only reads -/
structure Cx where
  G : Gx
  A : Around
  env : Env
  names : List Str
  ro : Nat
  lv : Nat
  pin : Nat
  fx : Str → Option Value

noncomputable def Room (A : Around) (n : Nat) : Prop := A.depth + n + 10 ≤ recursionLimit ∧ A.units + 20 * n + 300 ≤ cLine
theorem Room.mono {A : Around} {n m : Nat} (h : Room A n) (hm : m ≤ n) : Room A m := ⟨by have := h.1; omega, by have := h.2; omega⟩
theorem Room.deeper {A : Around} {n : Nat} (h : Room A (n + 1)) (env : Env) : Room (A.deeper env) n := by
  refine ⟨?_, ?_⟩
  · have h1 := h.1; show A.depth + 1 + n + 10 ≤ _; omega
  · have h2 := h.2; show A.units + 3 + 20 * n + 300 ≤ _; omega
theorem Room.depth {A : Around} {n : Nat} (h : Room A n) : A.depth < recursionLimit := by have := h.1; omega
theorem Room.units {A : Around} {n : Nat} (h : Room A n) : A.units + 64 < cLine := by have := h.2; omega

structure Cx.Ok (C : Cx) : Prop where
  g : C.G.Ok
  kind : C.env.scope.kind = .function
  glob : C.env.globals = mainGlobals
  blt : C.env.builtins = builtinsNs
  hd : C.A.handled = none
  room : Room C.A C.lv
  pr : C.ro ≤ C.pin
  nodup : C.names.Nodup
  var : ∀ x ∈ C.names, (x == ("__debug__" : Str)) = false ∧ (x == ("__classdict__" : Str)) = false ∧ (C.env.kindOf x = some .local ∨ ((C.env.kindOf x = some .cell ∨ C.env.kindOf x = some .free) ∧ ∃ c, C.env.cells.lookup x = some c))
  sto : ∀ (i : Nat) x, i < C.ro → C.names[i]? = some x → C.env.kindOf x ≠ some .free
  apart : ∀ x y c, C.env.cells.lookup x = some c → C.env.cells.lookup y = some c → x = y

abbrev W (G : Gx) (A : Around) {α : Type} (t : Sem α) (Q : α → Shared → Prop) (s : Shared) : Prop := wpAny (model G.prog G.w) A t Q (fun _ _ => False) s

theorem W.any {G : Gx} {A : Around} {α : Type} {t : Sem α} {Q : α → Shared → Prop} {E : Value → Shared → Prop} {s : Shared} (h : W G A t Q s) : wpAny (model G.prog G.w) A t Q E s :=
  wpAny_mono h (fun _ _ q => q) fun _ _ f => f.elim

inductive Slot where
  | un
  | val (d : D)
  | own (ds : List D)
abbrev St := List Slot

noncomputable def SlotOk (P U : AS) (h : Heap) (ρ : Str → Option Value) (x : Str) : Slot → Prop
  | .un => True
  | .val d => ∃ v, ρ x = some v ∧ Rd U h v d
  | .own ds => ∃ a vs n, ρ x = some (.ref a) ∧ U a ∧ ¬ P a ∧ h.get? a = some (lobj vs n) ∧ Rds U h vs.toList ds

structure Vars (C : Cx) (P U : AS) (σ : St) (h : Heap) (ρ : Str → Option Value) : Prop where
  fr : FrameOk C.env C.names h ρ
  slot : ∀ (i : Nat) (x : Str) (sl : Slot), C.names[i]? = some x → σ[i]? = some sl → SlotOk P U h ρ x sl
  one : ∀ (i j : Nat) (x y : Str) (ds es : List D) (a : Addr), C.names[i]? = some x → C.names[j]? = some y → σ[i]? = some (.own ds) → σ[j]? = some (.own es) → ρ x = some (.ref a) → ρ y = some (.ref a) → i = j
  fx : ∀ (i : Nat) x, C.pin ≤ i → C.names[i]? = some x → ρ x = C.fx x

structure Rel (C : Cx) (X P U : AS) (σ : St) (s : Shared) : Prop where
  base : ∀ b o, C.G.h0.get? b = some o → s.heap.get? b = some o ∧ P b ∧ ¬ X b
  xu : ∀ a, X a → U a
  xp : ∀ a, X a → P a
  ul : ∀ a, U a → ∃ o, s.heap.get? a = some o
  pl : ∀ a, P a → ∃ o, s.heap.get? a = some o
  pu : ∀ a, U a → X a ∨ ¬ P a
  pL : ¬ P C.env.locals
  pC : ∀ (i : Nat) x c, i < C.ro → C.names[i]? = some x → C.env.kindOf x ≠ some .local → C.env.cells.lookup x = some c → ¬ P c
  xC : ∀ (i : Nat) x c, C.names[i]? = some x → C.env.kindOf x ≠ some .local → C.env.cells.lookup x = some c → ¬ U c
  len : σ.length = C.names.length
  vars : ∃ ρ, Vars C P U σ s.heap ρ

theorem SlotOk.kept {P U : AS} {h h' : Heap} {ρ x} {sl : Slot} (o : SlotOk P U h ρ x sl) (hk : ∀ b o, h.get? b = some o → h'.get? b = some o) : SlotOk P U h' ρ x sl := by
  cases sl with
  | un => trivial
  | val d => obtain ⟨v, h1, h2⟩ := o; exact ⟨v, h1, h2.kept hk⟩
  | own ds => obtain ⟨a, vs, n, h1, h2, h4, h5, h6⟩ := o; exact ⟨a, vs, n, h1, h2, h4, hk _ _ h5, h6.kept hk⟩
theorem Vars.kept {C : Cx} {P U : AS} {σ : St} {h h' : Heap} {ρ} (V : Vars C P U σ h ρ) (hk : ∀ b o, h.get? b = some o → h'.get? b = some o) : Vars C P U σ h' ρ :=
  ⟨V.fr.kept hk, fun i x sl hx hs => (V.slot i x sl hx hs).kept hk, V.one, V.fx⟩
theorem Rel.kept {C : Cx} {X P U : AS} {σ : St} {s s' : Shared} (R : Rel C X P U σ s) (hk : ∀ b o, s.heap.get? b = some o → s'.heap.get? b = some o) : Rel C X P U σ s' :=
  ⟨fun b o e => let ⟨q1, q2⟩ := R.base b o e; ⟨hk _ _ q1, q2⟩, R.xu, R.xp, fun a h => let ⟨o, e⟩ := R.ul a h; ⟨o, hk _ _ e⟩, fun a h => let ⟨o, e⟩ := R.pl a h; ⟨o, hk _ _ e⟩, R.pu, R.pL, R.pC, R.xC, R.len, let ⟨ρ, V⟩ := R.vars; ⟨ρ, V.kept hk⟩⟩
theorem Rel.T {C : Cx} {X P U : AS} {σ : St} {s : Shared} (R : Rel C X P U σ s) (O : C.Ok) : C.G.T s.heap := O.g.T.keeps fun b o e => (R.base b o e).1

theorem keeps_refl (s : Shared) : Keeps s s := ⟨s.heap, s.toks, rfl, fun _ _ e => e⟩
theorem keeps_trans {s s' s'' : Shared} (h : Keeps s s') (h' : Keeps s' s'') : Keeps s s'' := by
  obtain ⟨a, t, rfl, k⟩ := h
  obtain ⟨b, u, rfl, l⟩ := h'
  exact ⟨b, u, rfl, fun x o e => l x o (k x o e)⟩
theorem keeps_get {s s' : Shared} (h : Keeps s s') : ∀ b o, s.heap.get? b = some o → s'.heap.get? b = some o := by
  obtain ⟨a, t, rfl, k⟩ := h
  exact k
theorem Rel.keeps {C : Cx} {X P U : AS} {σ : St} {s s' : Shared} (R : Rel C X P U σ s) (h : Keeps s s') : Rel C X P U σ s' := R.kept (keeps_get h)

/- ---- judgements ---- -/
abbrev Fe := St → Option D
/-- an expression: its value is read and avoids the owned lists -/
noncomputable def SE (C : Cx) (t : Sem Value) (m : Fe) : Prop :=
  ∀ X P U σ s Q, Rel C X P U σ s → ∀ d, m σ = some d → (∀ v s', Keeps s s' → Rd U s'.heap v d → Q v s') → W C.G C.A t Q s
/-- an expression whose value may be an owned list itself -/
noncomputable def SB (C : Cx) (t : Sem Value) (m : Fe) : Prop :=
  ∀ X P U σ s Q, Rel C X P U σ s → ∀ d, m σ = some d → (∀ v s', Keeps s s' → RdB U s'.heap v d → Q v s') → W C.G C.A t Q s
/-- an expression that makes a new list -/
noncomputable def SO (C : Cx) (t : Sem Value) (m : St → Option (List D)) : Prop :=
  ∀ X P U σ s Q, Rel C X P U σ s → ∀ ds, m σ = some ds → (∀ a vs n s', Keeps s s' → s.heap.get? a = none → s'.heap.get? a = some (lobj vs n) → Rds (fun b => U b ∨ b = a) s'.heap vs.toList ds → Q (.ref a) s') → W C.G C.A t Q s
/-- a test -/
noncomputable def ST (C : Cx) (t : Sem Bool) (m : St → Option Bool) : Prop :=
  ∀ X P U σ s Q, Rel C X P U σ s → ∀ b, m σ = some b → (∀ s', Keeps s s' → Q b s') → W C.G C.A t Q s
/-- a statement -/
noncomputable def Post (C : Cx) (X P : AS) (s : Shared) (σ' : St) (r : Option D) (fl : Flow) (s' : Shared) : Prop :=
  (∃ h' tk, s' = { s with heap := h', toks := tk }) ∧ (∀ b o, P b → s.heap.get? b = some o → s'.heap.get? b = some o) ∧
    match r with
    | none => fl = .next ∧ ∃ U', Rel C X P U' σ' s'
    | some d => ∃ v, fl = .ret v ∧ Rd X s'.heap v d
noncomputable def SS (C : Cx) (t : Sem Flow) (m : St → Option (St × Option D)) : Prop :=
  ∀ X P U σ s Q, Rel C X P U σ s → ∀ σ' r, m σ = some (σ', r) → (∀ fl s', Post C X P s σ' r fl s' → Q fl s') → W C.G C.A t Q s

theorem SE.b {C : Cx} {t : Sem Value} {m : Fe} (h : SE C t m) : SB C t m := fun X P U σ s Q R d hd k => h X P U σ s Q R d hd fun v s' K r => k v s' K r.b
theorem not_live {h : Heap} {a : Addr} (e : h.get? a = none) {U : AS} (ul : ∀ a, U a → ∃ o, h.get? a = some o) : ¬ U a := fun q => by obtain ⟨o, ho⟩ := ul a q; rw [e] at ho; cases ho
theorem SO.e {C : Cx} {t : Sem Value} {m : St → Option (List D)} (h : SO C t m) : SE C t (fun σ => (m σ).map .list) := by
  intro X P U σ s Q R d hd k
  cases e : m σ with
  | none => simp [e] at hd
  | some ds =>
    simp [e] at hd
    subst hd
    exact h X P U σ s Q R ds e fun a vs n s' K hn hg hr => k _ s' K (.list (not_live hn R.ul) hg (hr.sub fun _ q => .inl q))
end Pf

namespace Pf
open PySem PySem.Calls PyProof.Rows

theorem keeps_tok (s : Shared) (t : Nat) : Keeps s { s with toks := t } := ⟨s.heap, t, rfl, fun _ _ e => e⟩
theorem keeps_push (s : Shared) (o : Obj) : Keeps s { s with heap := s.heap.push o } := ⟨_, s.toks, rfl, fun _ _ e => Heap.get?_push_of_some _ e⟩
theorem keeps_push2 (s : Shared) (o o' : Obj) : Keeps s { s with heap := (s.heap.push o).push o' } := ⟨_, s.toks, rfl, fun _ _ e => Heap.get?_push_of_some _ (Heap.get?_push_of_some _ e)⟩
theorem keeps_heap {s : Shared} {h : Heap} {t : Nat} (k : ∀ b o, s.heap.get? b = some o → h.get? b = some o) : Keeps s { s with heap := h, toks := t } := ⟨h, t, rfl, k⟩
theorem get_size_none (h : Heap) : h.get? h.objs.size = none := by
  cases e : h.get? h.objs.size with
  | none => rfl
  | some o => exact absurd (Heap.lt_size e) (Nat.lt_irrefl _)
theorem sl : sizeLine = 2 ^ 24 := rfl

/- ---- names ---- -/
noncomputable def eVar (i : Nat) : Fe := fun σ => match σ[i]? with | some (.val d) => some d | _ => none
noncomputable def eVarB (i : Nat) : Fe := fun σ => match σ[i]? with | some (.val d) => some d | some (.own ds) => some (.list ds) | _ => none

theorem ld_name {C : Cx} (O : C.Ok) {s : Shared} {ρ : Str → Option Value} (F : FrameOk C.env C.names s.heap ρ) {i : Nat} {x : Str} {pos : Pos} (hx : C.names[i]? = some x) {v : Value} (hv : ρ x = some v) {Q : Value → Shared → Prop} (h : Q v s) :
    W C.G C.A (loadName C.env x) Q s ∧ W C.G C.A (eval (.Name x pos) C.env) Q s := by
  have hm : x ∈ C.names := List.mem_of_getElem? hx
  obtain ⟨h1, h2, h3⟩ := O.var x hm
  have key : W C.G C.A (loadName C.env x) Q s := by
    rcases h3 with hl | ⟨hc, c, hcl⟩
    · obtain ⟨m, hn, hmm⟩ := F.ns
      exact wpAny_loadName_local O.kind hl hn ((hmm x hl).trans hv) h
    · have hne : C.env.kindOf x ≠ some .local := by rcases hc with q | q <;> rw [q] <;> decide
      have hcell := F.cell x c hm hne hcl
      rw [hv] at hcell
      rcases hc with q | q
      · exact wpAny_loadName_cell O.kind q hcl hcell h
      · exact wpAny_loadName_free O.kind q hcl hcell h h2
  exact ⟨key, wpAny_Name key h1⟩

theorem SE_var {C : Cx} (O : C.Ok) {i : Nat} {x : Str} {pos : Pos} (hx : C.names[i]? = some x) : SE C (eval (.Name x pos) C.env) (eVar i) := by
  intro X P U σ s Q R d hd k
  obtain ⟨ρ, V⟩ := R.vars
  unfold eVar at hd
  split at hd
  · rename_i d' he
    cases hd
    obtain ⟨v, hv, hr⟩ := V.slot i x _ hx he
    exact (ld_name O V.fr hx hv (k v s (keeps_refl s) hr)).2
  · cases hd
theorem SB_var {C : Cx} (O : C.Ok) {i : Nat} {x : Str} {pos : Pos} (hx : C.names[i]? = some x) : SB C (eval (.Name x pos) C.env) (eVarB i) := by
  intro X P U σ s Q R d hd k
  obtain ⟨ρ, V⟩ := R.vars
  unfold eVarB at hd
  split at hd
  · rename_i d' he
    cases hd
    obtain ⟨v, hv, hr⟩ := V.slot i x _ hx he
    exact (ld_name O V.fr hx hv (k v s (keeps_refl s) hr.b)).2
  · rename_i ds he
    cases hd
    obtain ⟨a, vs, n, hv, _, _, hg, hr⟩ := V.slot i x _ hx he
    exact (ld_name O V.fr hx hv (k _ s (keeps_refl s) (.inr ⟨a, vs, n, ds, rfl, rfl, hg, hr⟩))).2
  · cases hd

/- ---- constants ---- -/
noncomputable def eC (d : D) : Fe := fun _ => some d
theorem SE_int {C : Cx} {i : Int} {n : Nat} {pos : Pos} : SE C (eval (.Constant (.int i) n pos) C.env) (eC (.int i)) := by
  intro X P U σ s Q R d hd k
  cases hd
  exact wpAny_Constant_int (k _ _ (keeps_tok s _) (.int _ _))
theorem SE_none {C : Cx} {n : Nat} {pos : Pos} : SE C (eval (.Constant .none n pos) C.env) (eC .none) := by
  intro X P U σ s Q R d hd k
  cases hd
  exact wpAny_Constant_none (k _ _ (keeps_refl s) .none)
theorem SE_bool {C : Cx} {b : Bool} {n : Nat} {pos : Pos} : SE C (eval (.Constant (.bool b) n pos) C.env) (eC (.bool b)) := by
  intro X P U σ s Q R d hd k
  cases hd
  exact wpAny_Constant_bool (k _ _ (keeps_refl s) (.bool _))

/- ---- lists of expressions ---- -/
abbrev Fl := St → Option (List D)
noncomputable def NS (es : List Expr) : Prop := ∀ pos env, ((backTo pos (starEach es env)).any fun x => x.1) = false
noncomputable def SL (C : Cx) (es : List Expr) (m : Fl) : Prop := NS es ∧
  ∀ pos X P U σ s (Q : List Value → Shared → Prop), Rel C X P U σ s → ∀ ds, m σ = some ds → (∀ vs s', Keeps s s' → Rds U s'.heap vs ds → Q vs s') → W C.G C.A (spliced (backTo pos (starEach es C.env))) Q s
noncomputable def lNil : Fl := fun _ => some []
noncomputable def lCons (m : Fe) (ms : Fl) : Fl := fun σ => match m σ with
  | some d => (match ms σ with | some ds => some (d :: ds) | none => none)
  | none => none
theorem NS_cons {e : Expr} {es : List Expr} (h : NS es) (hst : ∀ env, starEach (e :: es) env = (false, eval e env) :: starEach es env) : NS (e :: es) := by
  intro pos env
  rw [hst]
  show (false || (backTo pos (starEach es env)).any fun x => x.1) = false
  rw [h pos env]; rfl
theorem SL_nil {C : Cx} : SL C [] lNil := by
  refine ⟨fun _ _ => rfl, ?_⟩
  intro pos X P U σ s Q R ds hd k
  cases hd
  exact spliced_nil (k _ _ (keeps_refl s) .nil)
theorem SL_cons {C : Cx} {e : Expr} {es : List Expr} {m : Fe} {ms : Fl} (h : SE C (eval e C.env) m) (hs : SL C es ms) (hst : ∀ env, starEach (e :: es) env = (false, eval e env) :: starEach es env := by intro _; rfl) :
    SL C (e :: es) (lCons m ms) := by
  refine ⟨NS_cons hs.1 hst, ?_⟩
  intro pos X P U σ s Q R ds hd k
  unfold lCons at hd
  split at hd
  · rename_i d hm
    split at hd
    · rename_i ds' hms
      cases hd
      rw [hst]
      show W _ _ (spliced ((false, eval e C.env) :: backTo pos (starEach es C.env))) Q s
      refine spliced_cons (h X P U σ s _ R d hm fun v s₁ K r => ?_)
      refine hs.2 pos X P U σ s₁ _ (R.keeps K) ds' hms fun vs s₂ K' r' => ?_
      exact k _ _ (keeps_trans K K') (.cons (r.kept (keeps_get K')) r')
    · cases hd
  · cases hd
/-- the same, where an argument may be an owned list -/
inductive RdBs (X : AS) (h : Heap) : List Value → List D → Prop
  | nil : RdBs X h [] []
  | cons {v vs d ds} : RdB X h v d → RdBs X h vs ds → RdBs X h (v :: vs) (d :: ds)
noncomputable def SLB (C : Cx) (es : List Expr) (m : Fl) : Prop := NS es ∧
  ∀ pos X P U σ s (Q : List Value → Shared → Prop), Rel C X P U σ s → ∀ ds, m σ = some ds → (∀ vs s', Keeps s s' → RdBs U s'.heap vs ds → Q vs s') → W C.G C.A (spliced (backTo pos (starEach es C.env))) Q s
theorem SLB_nil {C : Cx} : SLB C [] lNil := by
  refine ⟨fun _ _ => rfl, ?_⟩
  intro pos X P U σ s Q R ds hd k
  cases hd
  exact spliced_nil (k _ _ (keeps_refl s) .nil)
theorem SLB_cons {C : Cx} {e : Expr} {es : List Expr} {m : Fe} {ms : Fl} (h : SB C (eval e C.env) m) (hs : SLB C es ms) (hst : ∀ env, starEach (e :: es) env = (false, eval e env) :: starEach es env := by intro _; rfl) :
    SLB C (e :: es) (lCons m ms) := by
  refine ⟨NS_cons hs.1 hst, ?_⟩
  intro pos X P U σ s Q R ds hd k
  unfold lCons at hd
  split at hd
  · rename_i d hm
    split at hd
    · rename_i ds' hms
      cases hd
      rw [hst]
      show W _ _ (spliced ((false, eval e C.env) :: backTo pos (starEach es C.env))) Q s
      refine spliced_cons (h X P U σ s _ R d hm fun v s₁ K r => ?_)
      refine hs.2 pos X P U σ s₁ _ (R.keeps K) ds' hms fun vs s₂ K' r' => ?_
      exact k _ _ (keeps_trans K K') (.cons (r.kept (keeps_get K')) r')
    · cases hd
  · cases hd
theorem RdBs.free {X : AS} {h : Heap} : ∀ {vs ds}, RdBs X h vs ds → Rds (fun _ => False) h vs ds
  | _, _, .nil => .nil
  | _, _, .cons h1 h2 => .cons h1.free h2.free

noncomputable def eTup (m : Fl) : Fe := fun σ => match m σ with | some ds => (if ds.length ≤ 64 then some (.tuple ds) else none) | none => none
noncomputable def oLst (m : Fl) : Fl := fun σ => match m σ with | some ds => (if ds.length ≤ 64 then some ds else none) | none => none
theorem SE_tuple {C : Cx} {es : List Expr} {n : Nat} {pos : Pos} {m : Fl} (h : SL C es m) : SE C (eval (.Tuple es n pos) C.env) (eTup m) := by
  intro X P U σ s Q R d hd k
  unfold eTup at hd
  split at hd
  · rename_i ds hm
    split at hd
    · rename_i hlen
      cases hd
      refine Tuple_ (h.2 pos X P U σ s _ R ds hm fun vs s₁ K r => ?_)
      have hl := r.length
      refine wpAny_newObj_type (k _ _ (keeps_trans K (keeps_push _ _)) (.tuple (not_live (get_size_none _) (R.keeps K).ul) (Heap.get?_push_size _ rfl) ?_)) ?_
      · simpa using r.kept fun b o e => Heap.get?_push_of_some _ e
      · show vs.toArray.size ≤ sizeLine
        rw [List.size_toArray, sl]; omega
    · cases hd
  · cases hd
theorem SO_list {C : Cx} {es : List Expr} {pos : Pos} {m : Fl} (h : SL C es m) : SO C (eval (.List es pos) C.env) (oLst m) := by
  intro X P U σ s Q R d hd k
  unfold oLst at hd
  split at hd
  · rename_i ds hm
    split at hd
    · rename_i hlen
      cases hd
      refine List_ (h.2 pos X P U σ s _ R _ hm fun vs s₁ K r => ?_)
      have hl := r.length
      refine wpAny_newObj_type (k _ vs.toArray 0 _ (keeps_trans K (keeps_push _ _)) ?_ (Heap.get?_push_size _ rfl) ?_) ?_
      · cases e : s.heap.get? s₁.heap.objs.size with
        | none => rfl
        | some o => exact absurd (Heap.lt_size (keeps_get K _ _ e)) (Nat.lt_irrefl _)
      · simpa using (r.fresh (get_size_none _)).kept fun b o e => Heap.get?_push_of_some _ e
      · show vs.toArray.size ≤ sizeLine
        rw [List.size_toArray, sl]; omega
    · cases hd
  · cases hd

/- ---- operations on two values ---- -/
noncomputable def Op2 (G : Gx) (n : Nat) (T : Value → Value → Sem Value) (f : D → D → Option D) : Prop :=
  ∀ A U s a b da db d (Q : Value → Shared → Prop), A.handled = none → Room A n → Rd U s.heap a da → Rd U s.heap b db → f da db = some d →
    (∀ v s', Keeps s s' → Rd U s'.heap v d → Q v s') → W G A (T a b) Q s
noncomputable def bind2 (f : D → D → Option D) (m1 m2 : Fe) : Fe := fun σ => match m1 σ with
  | some a => (match m2 σ with | some b => f a b | none => none)
  | none => none
theorem bind2_some {f : D → D → Option D} {m1 m2 : Fe} {σ : St} {d : D} (h : bind2 f m1 m2 σ = some d) : ∃ a b, m1 σ = some a ∧ m2 σ = some b ∧ f a b = some d := by
  unfold bind2 at h
  split at h
  · split at h
    · exact ⟨_, _, by assumption, by assumption, h⟩
    · cases h
  · cases h
theorem SE_bin {C : Cx} (O : C.Ok) {l r : Expr} {op : Operator} {pos : Pos} {m1 m2 : Fe} {f : D → D → Option D} (ho : ∀ G n, Op2 G n (binaryOp op) f) (h1 : SE C (eval l C.env) m1) (h2 : SE C (eval r C.env) m2) :
    SE C (eval (.BinOp l op r pos) C.env) (bind2 f m1 m2) := by
  intro X P U σ s Q R d hd k
  obtain ⟨a, b, e1, e2, hf⟩ := bind2_some hd
  refine wpAny_BinOp (h1 X P U σ s _ R a e1 fun v s₁ K r1 => ?_)
  refine h2 X P U σ s₁ _ (R.keeps K) b e2 fun w s₂ K' r2 => ?_
  exact ho C.G C.lv C.A U s₂ v w a b d Q O.hd O.room (r1.kept (keeps_get K')) r2 hf fun v' s₃ K'' r3 => k v' s₃ (keeps_trans (keeps_trans K K') K'') r3

noncomputable def dAdd : D → D → Option D | .int a, .int b => some (.int (a + b)) | _, _ => none
noncomputable def dSub : D → D → Option D | .int a, .int b => some (.int (a - b)) | _, _ => none
noncomputable def small (a : Int) : Bool := Nat.blt a.natAbs (2 ^ 60)
theorem small_lt {a : Int} (h : small a = true) : -(2 ^ 60) < a ∧ a < 2 ^ 60 := by
  have : a.natAbs < 2 ^ 60 := Nat.le_of_ble_eq_true h
  omega
noncomputable def dMul : D → D → Option D | .int a, .int b => (match small a with | true => some (.int (a * b)) | false => none) | _, _ => none
noncomputable def dMod : D → D → Option D | .int a, .int b => (match PySem.W.Z.eqB b 0 with | true => none | false => some (.int (a.fmod b))) | _, _ => none
noncomputable def dDiv : D → D → Option D | .int a, .int b => (match PySem.W.Z.eqB b 0 with | true => none | false => (match Nat.blt b.natAbs 1073741824 with | true => some (.int (a.fdiv b)) | false => none)) | _, _ => none
noncomputable def dPow : D → D → Option D | .int a, .int b => (match PySem.W.Z.leB 0 b with | true => (match small a with | true => (match PySem.W.Z.ltB b 1024 with | true => some (.int (a ^ b.toNat)) | false => none) | false => none) | false => none) | _, _ => none

theorem eqB_false {a b : Int} (h : PySem.W.Z.eqB a b = false) : a ≠ b := fun e => by rw [(PySem.W.Z.eqB_iff a b).mpr e] at h; cases h
theorem bits60 {a : Int} (h : small a = true) : Builtin.Int.intBits a ≤ 64 := by
  have := small_lt h
  exact intBits_le_64 (by omega) (by omega)


theorem op_add (G : Gx) (n : Nat) : Op2 G n (binaryOp .Add) dAdd := by
  intro A U s a b da db d Q hA hR ra rb hf k
  cases ra <;> cases rb <;> simp [dAdd] at hf
  subst hf
  exact add_int (k _ _ (keeps_tok s _) (.int _ _))
theorem op_sub (G : Gx) (n : Nat) : Op2 G n (binaryOp .Sub) dSub := by
  intro A U s a b da db d Q hA hR ra rb hf k
  cases ra <;> cases rb <;> simp [dSub] at hf
  subst hf
  exact sub_int' (k _ _ (keeps_tok s _) (.int _ _))
theorem op_mul (G : Gx) (n : Nat) : Op2 G n (binaryOp .Mult) dMul := by
  intro A U s a b da db d Q hA hR ra rb hf k
  cases ra <;> cases rb <;> simp only [dMul] at hf <;> try (cases hf)
  split at hf <;> cases hf
  rename_i hs
  exact PyProof.Rows.mul_int (k _ _ (keeps_tok s _) (.int _ _)) (IntMulOk.of_left (bits60 hs))
theorem op_mod (G : Gx) (n : Nat) : Op2 G n (binaryOp .Mod) dMod := by
  intro A U s a b da db d Q hA hR ra rb hf k
  cases ra <;> cases rb <;> simp only [dMod] at hf <;> try (cases hf)
  split at hf <;> cases hf
  rename_i hs
  exact mod_int' (eqB_false hs) (k _ _ (keeps_tok s _) (.int _ _))
theorem op_div (G : Gx) (n : Nat) : Op2 G n (binaryOp .FloorDiv) dDiv := by
  intro A U s a b da db d Q hA hR ra rb hf k
  cases ra <;> cases rb <;> simp only [dDiv] at hf <;> try (cases hf)
  split at hf
  · cases hf
  · rename_i hs
    split at hf <;> cases hf
    rename_i hb
    exact floordiv_int (eqB_false hs) (k _ _ (keeps_tok s _) (.int _ _)) (.inl (PyProof.noPylong_small (Nat.le_of_ble_eq_true hb)))
theorem op_pow (G : Gx) (n : Nat) : Op2 G n (binaryOp .Pow) dPow := by
  intro A U s a b da db d Q hA hR ra rb hf k
  cases ra <;> cases rb <;> simp only [dPow] at hf <;> try (cases hf)
  split at hf
  · rename_i h0
    split at hf
    · rename_i hs
      split at hf <;> cases hf
      rename_i hb
      have h0' := (PySem.W.Z.leB_iff _ _).mp h0
      have hb' := (PySem.W.Z.ltB_iff _ _).mp hb
      have hbits := bits60 hs
      refine pow_int h0' ?_ (k _ _ (keeps_tok s _) (.int _ _))
      have h1 := Int.mul_le_mul_of_nonneg_right (show (Builtin.Int.intBits _ : Int) ≤ 64 by exact_mod_cast hbits) h0'
      omega
    · cases hf
  · cases hf

/- ---- comparisons ---- -/
noncomputable def dLt : D → D → Option D | .int a, .int b => some (.bool (PySem.W.Z.ltB a b)) | _, _ => none
noncomputable def dLe : D → D → Option D | .int a, .int b => some (.bool (PySem.W.Z.leB a b)) | _, _ => none
noncomputable def dGt : D → D → Option D | .int a, .int b => some (.bool (PySem.W.Z.ltB b a)) | _, _ => none
noncomputable def dGe : D → D → Option D | .int a, .int b => some (.bool (PySem.W.Z.leB b a)) | _, _ => none
theorem ltB_dec (a b : Int) : PySem.W.Z.ltB a b = decide (a < b) := by
  have := PySem.W.Z.ltB_iff a b
  cases h : PySem.W.Z.ltB a b <;> simp_all
theorem leB_dec (a b : Int) : PySem.W.Z.leB a b = decide (a ≤ b) := by
  have := PySem.W.Z.leB_iff a b
  cases h : PySem.W.Z.leB a b <;> simp_all
theorem eqB_dec (a b : Int) : PySem.W.Z.eqB a b = decide (a = b) := by
  have := PySem.W.Z.eqB_iff a b
  cases h : PySem.W.Z.eqB a b <;> simp_all
theorem op_lt (G : Gx) (n : Nat) : Op2 G n (compareOp .Lt) dLt := by
  intro A U s a b da db d Q hA hR ra rb hf k
  cases ra <;> cases rb <;> simp [dLt] at hf
  subst hf
  rw [ltB_dec] at k
  exact PyProof.Rows.lt_int (k _ _ (keeps_refl s) (.bool _))
theorem op_gt (G : Gx) (n : Nat) : Op2 G n (compareOp .Gt) dGt := by
  intro A U s a b da db d Q hA hR ra rb hf k
  cases ra <;> cases rb <;> simp [dGt] at hf
  subst hf
  rw [ltB_dec] at k
  exact PyProof.Rows.gt_int (k _ _ (keeps_refl s) (.bool _))
theorem op_le (G : Gx) (n : Nat) : Op2 G n (compareOp .LtE) dLe := by
  intro A U s a b da db d Q hA hR ra rb hf k
  cases ra <;> cases rb <;> simp [dLe] at hf
  subst hf
  rw [leB_dec] at k
  exact PyProof.Rows.le_int (k _ _ (keeps_refl s) (.bool _))
theorem op_ge (G : Gx) (n : Nat) : Op2 G n (compareOp .GtE) dGe := by
  intro A U s a b da db d Q hA hR ra rb hf k
  cases ra <;> cases rb <;> simp [dGe] at hf
  subst hf
  rw [leB_dec] at k
  exact PyProof.Rows.ge_int (k _ _ (keeps_refl s) (.bool _))


/- equality of data -/
noncomputable def dEqL (f : D → D → Bool) : List D → List D → Bool
  | [], [] => true
  | a :: r, b :: t => (match f a b with | true => dEqL f r t | false => false)
  | _, _ => false
noncomputable def dEqB : Nat → D → D → Bool
  | _, .none, .none => true
  | _, .bool a, .bool b => a == b
  | _, .bool a, .int j => PySem.W.Z.eqB (if a then 1 else 0) j
  | _, .int i, .bool b => PySem.W.Z.eqB i (if b then 1 else 0)
  | _, .int a, .int b => PySem.W.Z.eqB a b
  | n + 1, .list a, .list b => dEqL (dEqB n) a b
  | n + 1, .tuple a, .tuple b => dEqL (dEqB n) a b
  | _, _, _ => false
noncomputable def dAll (f : D → Bool) : List D → Bool
  | [] => true
  | a :: r => (match f a with | true => dAll f r | false => false)
noncomputable def deepB : Nat → D → Bool
  | n + 1, .list a => dAll (deepB n) a
  | n + 1, .tuple a => dAll (deepB n) a
  | _, .none => true
  | _, .bool _ => true
  | _, .int _ => true
  | _, _ => false
theorem dAll_mem {f : D → Bool} : ∀ {l : List D}, dAll f l = true → ∀ d ∈ l, f d = true
  | a :: r, h, d, hd => by
    unfold dAll at h
    split at h
    · rename_i e
      rcases List.mem_cons.mp hd with rfl | hd
      · exact e
      · exact dAll_mem h d hd
    · cases h
mutual
theorem Rd.canLay {X : AS} {h : Heap} : ∀ {v d}, Rd X h v d → d.canLay0 = true
  | _, _, .none => by simp [PyData.canLay0]
  | _, _, .bool b => by simp [PyData.canLay0]
  | _, _, .int i t => by simp [PyData.canLay0]
  | _, _, .list _ _ hs => by simp [PyData.canLay0, hs.canLay]
  | _, _, .tuple _ _ hs => by simp [PyData.canLay0, hs.canLay]
theorem Rds.canLay {X : AS} {h : Heap} : ∀ {vs ds}, Rds X h vs ds → PyData.canLayAll0 ds = true
  | _, _, .nil => by simp [PyData.canLayAll0]
  | _, _, .cons h1 h2 => by simp [PyData.canLayAll0, h1.canLay, h2.canLay]
end
theorem depthAll_le {n : Nat} : ∀ {l : List D}, (∀ d ∈ l, d.depth ≤ n) → PyData.depthAll l ≤ n
  | [], _ => by simp [PyData.depthAll]
  | a :: r, h => by
    have h1 := h a (.head _)
    have h2 := depthAll_le (n := n) (l := r) fun d hd => h d (.tail _ hd)
    simp [PyData.depthAll]; omega
theorem deepB_depth : ∀ (n : Nat) (d : D), deepB n d = true → d.depth ≤ n
  | n + 1, .list a, h => by
    have := depthAll_le (n := n) fun d hd => deepB_depth n d (dAll_mem h d hd)
    simp [PyData.depth]; omega
  | n + 1, .tuple a, h => by
    have := depthAll_le (n := n) fun d hd => deepB_depth n d (dAll_mem h d hd)
    simp [PyData.depth]; omega
  | _, .none, _ => by simp [PyData.depth]
  | _, .bool _, _ => by simp [PyData.depth]
  | _, .int _, _ => by simp [PyData.depth]
  | 0, .list _, h => by simp [deepB] at h
  | 0, .tuple _, h => by simp [deepB] at h
  | 0, .str _, h => by simp [deepB] at h
  | _ + 1, .str _, h => by simp [deepB] at h
  | 0, .dict _, h => by simp [deepB] at h
  | _ + 1, .dict _, h => by simp [deepB] at h
theorem dEqL_eqv {f : D → D → Bool} : ∀ (a b : List D), (∀ x ∈ a, ∀ y, f x y = PyData.eqv x y) → dEqL f a b = PyData.eqvAll a b
  | [], [], _ => by simp [dEqL, PyData.eqvAll]
  | [], _ :: _, _ => by simp [dEqL, PyData.eqvAll]
  | _ :: _, [], _ => by simp [dEqL, PyData.eqvAll]
  | x :: r, y :: t, h => by
    have ih := dEqL_eqv r t fun z hz => h z (.tail _ hz)
    unfold dEqL
    rw [h x (.head _) y]
    simp only [PyData.eqvAll]
    cases PyData.eqv x y <;> simp [ih]
theorem dEqB_eqv : ∀ (n : Nat) (a b : D), deepB n a = true → dEqB n a b = PyData.eqv a b
  | n + 1, .list a, b, h => by
    cases b with
    | list b => simp only [dEqB, PyData.eqv]; exact dEqL_eqv a b fun x hx y => dEqB_eqv n x y (dAll_mem h x hx)
    | _ => simp [dEqB, PyData.eqv]
  | n + 1, .tuple a, b, h => by
    cases b with
    | tuple b => simp only [dEqB, PyData.eqv]; exact dEqL_eqv a b fun x hx y => dEqB_eqv n x y (dAll_mem h x hx)
    | _ => simp [dEqB, PyData.eqv]
  | _, .none, b, _ => by cases b <;> simp [dEqB, PyData.eqv]
  | _, .bool _, b, _ => by cases b <;> simp [dEqB, PyData.eqv, eqB_dec] <;> rfl
  | _, .int _, b, _ => by cases b <;> simp [dEqB, PyData.eqv, eqB_dec] <;> rfl
  | 0, .list _, _, h => by simp [deepB] at h
  | 0, .tuple _, _, h => by simp [deepB] at h
  | 0, .str _, _, h => by simp [deepB] at h
  | _ + 1, .str _, _, h => by simp [deepB] at h
  | 0, .dict _, _, h => by simp [deepB] at h
  | _ + 1, .dict _, _, h => by simp [deepB] at h

noncomputable def dEq (a b : D) : Option D := match deepB 6 a with | true => some (.bool (dEqB 6 a b)) | false => none
noncomputable def dNe (a b : D) : Option D := match deepB 6 a with | true => some (.bool (!dEqB 6 a b)) | false => none
theorem room_deep {A : Around} {n k : Nat} {a b : D} (hR : Room A n) (h : a.depth ≤ k) (hk : k ≤ 10) : A.units + min a.depth b.depth < cLine := by
  have := hR.2
  have h2 : min a.depth b.depth ≤ a.depth := Nat.min_le_left _ _
  omega
theorem op_eq (G : Gx) (n : Nat) : Op2 G n (compareOp .Eq) dEq := by
  intro A U s a b da db d Q hA hR ra rb hf k
  unfold dEq at hf
  split at hf <;> cases hf
  rename_i hd
  obtain ⟨as, q1⟩ := ra.reads
  obtain ⟨bs, q2⟩ := rb.reads
  rw [dEqB_eqv 6 da db hd] at k
  exact PySem.SeqAt.compareEq_reads q1 q2 ra.canLay rb.canLay (room_deep hR (deepB_depth 6 da hd) (by decide)) (k _ _ (keeps_refl s) (.bool _))
theorem op_ne (G : Gx) (n : Nat) : Op2 G n (compareOp .NotEq) dNe := by
  intro A U s a b da db d Q hA hR ra rb hf k
  unfold dNe at hf
  split at hf <;> cases hf
  rename_i hd
  obtain ⟨as, q1⟩ := ra.reads
  obtain ⟨bs, q2⟩ := rb.reads
  rw [dEqB_eqv 6 da db hd] at k
  exact PySem.SeqAt.compareNe_reads q1 q2 ra.canLay rb.canLay (room_deep hR (deepB_depth 6 da hd) (by decide)) (k _ _ (keeps_refl s) (.bool _))
noncomputable def dAny (f : D → Bool) : List D → Bool
  | [] => false
  | a :: r => (match f a with | true => true | false => dAny f r)
theorem dAny_eqv {n : Nat} {d : D} : ∀ (l : List D), dAll (deepB n) l = true → dAny (fun y => dEqB n y d) l = l.any fun y => PyData.eqv y d
  | [], _ => rfl
  | a :: r, h => by
    unfold dAll at h
    split at h
    · rename_i e
      unfold dAny
      rw [dEqB_eqv n a d e, List.any_cons, dAny_eqv r h]
      cases PyData.eqv a d <;> rfl
    · cases h
noncomputable def dIn (x c : D) : Option D := match c with
  | .list l => (match dAll (deepB 6) l with | true => some (.bool (dAny (fun y => dEqB 6 y x) l)) | false => none)
  | _ => none
noncomputable def dNotIn (x c : D) : Option D := match c with
  | .list l => (match dAll (deepB 6) l with | true => some (.bool (!dAny (fun y => dEqB 6 y x) l)) | false => none)
  | _ => none
theorem room_in {A : Around} {n : Nat} {l : List D} {x : D} (hR : Room A n) (h : dAll (deepB 6) l = true) : A.units + 1 + min (PyData.depthAll l) x.depth < cLine := by
  have := hR.2
  have h2 := depthAll_le (n := 6) fun d hd => deepB_depth 6 d (dAll_mem h d hd)
  omega
theorem op_in (G : Gx) (n : Nat) : Op2 G n (compareOp .In) dIn := by
  intro A U s a b da db d Q hA hR ra rb hf k
  cases rb <;> simp only [dIn] at hf <;> try (cases hf)
  split at hf <;> cases hf
  rename_i hn hg hs _ hd
  obtain ⟨as, q1⟩ := ra.reads
  obtain ⟨bs, q2⟩ := hs.reads
  rw [dAny_eqv _ hd] at k
  exact PySem.SeqAt.in_list_reads (.list hg rfl rfl q2) q1 hs.canLay ra.canLay (room_in hR hd) (k _ _ (keeps_refl s) (.bool _))
theorem op_notin (G : Gx) (n : Nat) : Op2 G n (compareOp .NotIn) dNotIn := by
  intro A U s a b da db d Q hA hR ra rb hf k
  cases rb <;> simp only [dNotIn] at hf <;> try (cases hf)
  split at hf <;> cases hf
  rename_i hn hg hs _ hd
  obtain ⟨as, q1⟩ := ra.reads
  obtain ⟨bs, q2⟩ := hs.reads
  rw [dAny_eqv _ hd] at k
  exact PySem.SeqAt.notIn_list_reads (.list hg rfl rfl q2) q1 hs.canLay ra.canLay (room_in hR hd) (k _ _ (keeps_refl s) (.bool _))
noncomputable def dIs (a b : D) : Option D := match b with
  | .none => some (.bool (match a with | .none => true | _ => false))
  | _ => none
noncomputable def dIsNot (a b : D) : Option D := match b with
  | .none => some (.bool (match a with | .none => false | _ => true))
  | _ => none

end Pf

namespace Pf
open PySem PySem.Calls PyProof.Rows

theorem op_is (G : Gx) (n : Nat) : Op2 G n (compareOp .Is) dIs := by
  intro A U s a b da db d Q hA hR ra rb hf k
  cases rb <;> simp only [dIs] at hf <;> cases hf
  cases ra
  · exact wpAny_is_plain rfl (k _ _ (keeps_refl s) (.bool _))
  · exact wpAny_is_plain rfl (k _ _ (keeps_refl s) (.bool _))
  · exact wpAny_is_plain rfl (k _ _ (keeps_refl s) (.bool _))
  · exact wpAny_is_plain rfl (k _ _ (keeps_refl s) (.bool _))
  · exact wpAny_is_plain rfl (k _ _ (keeps_refl s) (.bool _))
theorem op_isnot (G : Gx) (n : Nat) : Op2 G n (compareOp .IsNot) dIsNot := by
  intro A U s a b da db d Q hA hR ra rb hf k
  cases rb <;> simp only [dIsNot] at hf <;> cases hf
  cases ra
  · exact wpAny_isNot_plain rfl (k _ _ (keeps_refl s) (.bool _))
  · exact wpAny_isNot_plain rfl (k _ _ (keeps_refl s) (.bool _))
  · exact wpAny_isNot_plain rfl (k _ _ (keeps_refl s) (.bool _))
  · exact wpAny_isNot_plain rfl (k _ _ (keeps_refl s) (.bool _))
  · exact wpAny_isNot_plain rfl (k _ _ (keeps_refl s) (.bool _))

/- ---- unary ---- -/
noncomputable def dNeg : D → Option D | .int a => some (.int (-a)) | _ => none
noncomputable def bind1 (f : D → Option D) (m : Fe) : Fe := fun σ => match m σ with | some a => f a | none => none
theorem bind1_some {f : D → Option D} {m : Fe} {σ : St} {d : D} (h : bind1 f m σ = some d) : ∃ a, m σ = some a ∧ f a = some d := by
  unfold bind1 at h
  split at h
  · exact ⟨_, by assumption, h⟩
  · cases h
theorem SE_neg {C : Cx} {e : Expr} {pos : Pos} {m : Fe} (h : SE C (eval e C.env) m) : SE C (eval (.UnaryOp .USub e pos) C.env) (bind1 dNeg m) := by
  intro X P U σ s Q R d hd k
  obtain ⟨a, e1, hf⟩ := bind1_some hd
  refine UnaryOp_ (h X P U σ s _ R a e1 fun v s₁ K r => ?_)
  cases r <;> simp [dNeg] at hf
  subst hf
  exact PyProof.Rows.neg_int (k _ _ (keeps_trans K (keeps_tok _ _)) (.int _ _))

/- ---- comparison as a value ---- -/
theorem SE_cmp {C : Cx} (O : C.Ok) {l r : Expr} {op : CmpOp} {pos : Pos} {m1 m2 : Fe} {f : D → D → Option D} (ho : ∀ G n, Op2 G n (compareOp op) f) (h1 : SE C (eval l C.env) m1) (h2 : SE C (eval r C.env) m2)
    (hm : behindInMarks op r = false := by with_unfolding_all rfl) : SE C (eval (.Compare l [op] [r] pos) C.env) (bind2 f m1 m2) := by
  intro X P U σ s Q R d hd k
  obtain ⟨a, b, e1, e2, hf⟩ := bind2_some hd
  refine wpAny_Compare1 (h1 X P U σ s _ R a e1 fun v s₁ K r1 => ?_) hm
  refine h2 X P U σ s₁ _ (R.keeps K) b e2 fun w s₂ K' r2 => ?_
  exact ho C.G C.lv C.A U s₂ v w a b d Q O.hd O.room (r1.kept (keeps_get K')) r2 hf fun v' s₃ K'' r3 => k v' s₃ (keeps_trans (keeps_trans K K') K'') r3

/- ---- tests ---- -/
abbrev Ft := St → Option Bool
noncomputable def dTruth : D → Option Bool
  | .bool b => some b
  | .none => some false
  | .int i => some (!PySem.W.Z.eqB i 0)
  | _ => none
noncomputable def tOf (m : Fe) : Ft := fun σ => match m σ with | some d => dTruth d | none => none
theorem truth_of {G : Gx} {A : Around} {U : AS} {s : Shared} {v : Value} {d : D} {b : Bool} {Q : Bool → Shared → Prop} (r : Rd U s.heap v d) (h : dTruth d = some b) (k : ∀ s', Keeps s s' → Q b s') : W G A (truthy v) Q s := by
  cases r <;> simp only [dTruth, Option.some.injEq, reduceCtorEq] at h
  · subst h; exact truthy_none (k _ (keeps_refl s))
  · subst h; exact wpAny_truthy_bool (k _ (keeps_refl s))
  · subst h
    refine PyProof.Rows.truthy_int ?_
    have := k s (keeps_refl s)
    rw [eqB_dec] at this
    rename_i i t
    have e : (i != 0) = !decide (i = 0) := by by_cases h : i = 0 <;> simp [h]
    rw [e]; exact this
/-- a comparison as a test -/
theorem ST_cmp {C : Cx} (O : C.Ok) {l r : Expr} {op : CmpOp} {pos : Pos} {whole : Sem Value} {m1 m2 : Fe} {f : D → D → Option D} (ho : ∀ G n, Op2 G n (compareOp op) f) (h1 : SE C (eval l C.env) m1) (h2 : SE C (eval r C.env) m2)
    (hm : behindInMarks op r = false := by with_unfolding_all rfl) : ST C (isTrue (.Compare l [op] [r] pos) C.env whole) (tOf (bind2 f m1 m2)) := by
  intro X P U σ s Q R b hb k
  unfold tOf at hb
  split at hb
  · rename_i d hd
    obtain ⟨x, y, e1, e2, hf⟩ := bind2_some hd
    refine wpAny_isTrue_Compare1 (h1 X P U σ s _ R x e1 fun v s₁ K r1 => ?_) hm
    refine h2 X P U σ s₁ _ (R.keeps K) y e2 fun w s₂ K' r2 => ?_
    exact ho C.G C.lv C.A U s₂ v w x y d _ O.hd O.room (r1.kept (keeps_get K')) r2 hf fun v' s₃ K'' r3 => truth_of r3 hb fun s₄ K₃ => k s₄ (keeps_trans (keeps_trans (keeps_trans K K') K'') K₃)
  · cases hb
/-- a chain of two comparisons -/
noncomputable def tChain (f1 f2 : D → D → Option D) (m1 m2 m3 : Fe) : Ft := fun σ => match m1 σ with
  | some a => (match m2 σ with
    | some b => (match f1 a b with
      | some (.bool true) => (match m3 σ with | some c => (match f2 b c with | some d => dTruth d | none => none) | none => none)
      | some (.bool false) => some false
      | _ => none)
    | none => none)
  | none => none
theorem ST_chain {C : Cx} (O : C.Ok) {l r1 r2 : Expr} {op1 op2 : CmpOp} {pos : Pos} {whole : Sem Value} {m1 m2 m3 : Fe} {f1 f2 : D → D → Option D} (ho1 : ∀ G n, Op2 G n (compareOp op1) f1) (ho2 : ∀ G n, Op2 G n (compareOp op2) f2)
    (h1 : SE C (eval l C.env) m1) (h2 : SE C (eval r1 C.env) m2) (h3 : SE C (eval r2 C.env) m3) (hm : lastMarks [op1, op2] [r1, r2] = false := by with_unfolding_all rfl) :
    ST C (isTrue (.Compare l [op1, op2] [r1, r2] pos) C.env whole) (tChain f1 f2 m1 m2 m3) := by
  intro X P U σ s Q R b hb k
  unfold tChain at hb
  split at hb
  · rename_i x ex
    split at hb
    · rename_i y ey
      refine isTrue_chain (h1 X P U σ s _ R x ex fun v s₁ K ra => ?_) hm
      refine test_link (h2 X P U σ s₁ _ (R.keeps K) y ey fun w s₂ K' rb => ?_)
      split at hb
      · rename_i e1
        refine ho1 C.G C.lv C.A U s₂ v w x y _ _ O.hd O.room (ra.kept (keeps_get K')) rb e1 fun v' s₃ K'' r3 => ?_
        refine truth_of r3 rfl fun s₄ K₃ => ?_
        simp only [if_true]
        split at hb
        · rename_i z ez
          split at hb
          · rename_i d ed
            have K4 := keeps_trans (keeps_trans (keeps_trans K K') K'') K₃
            refine test_last (h3 X P U σ s₄ _ (R.keeps K4) z ez fun w' s₅ K5 rc => ?_)
            exact ho2 C.G C.lv C.A U s₅ w w' y z d _ O.hd O.room (((rb.kept (keeps_get K'')).kept (keeps_get K₃)).kept (keeps_get K5)) rc ed fun v'' s₆ K6 r6 => truth_of r6 hb fun s₇ K7 => k s₇ (keeps_trans (keeps_trans (keeps_trans K4 K5) K6) K7)
          · cases hb
        · cases hb
      · rename_i e1
        cases hb
        refine ho1 C.G C.lv C.A U s₂ v w x y _ _ O.hd O.room (ra.kept (keeps_get K')) rb e1 fun v' s₃ K'' r3 => ?_
        refine truth_of r3 rfl fun s₄ K₃ => ?_
        simp only [Bool.false_eq_true, if_false]
        exact k s₄ (keeps_trans (keeps_trans (keeps_trans K K') K'') K₃)
      · cases hb
    · cases hb
  · cases hb
noncomputable def tNot (m : Ft) : Ft := fun σ => match m σ with | some b => some (!b) | none => none
theorem ST_not {C : Cx} {e : Expr} {pos : Pos} {whole : Sem Value} {m : Ft} (h : ST C (isTrue e C.env (eval e C.env)) m) : ST C (isTrue (.UnaryOp .Not e pos) C.env whole) (tNot m) := by
  intro X P U σ s Q R b hb k
  unfold tNot at hb
  split at hb
  · rename_i c hc
    cases hb
    exact isTrue_not (h X P U σ s _ R c hc fun s' K => k s' K)
  · cases hb
noncomputable def tAnd (m1 m2 : Ft) : Ft := fun σ => match m1 σ with | some true => m2 σ | some false => some false | none => none
noncomputable def tOr (m1 m2 : Ft) : Ft := fun σ => match m1 σ with | some false => m2 σ | some true => some true | none => none
theorem ST_and2 {C : Cx} {e1 e2 : Expr} {pos : Pos} {whole : Sem Value} {m1 m2 : Ft} (h1 : ST C (isTrue e1 C.env (eval e1 C.env)) m1) (h2 : ST C (isTrue e2 C.env (eval e2 C.env)) m2) :
    ST C (isTrue (.BoolOp .And [e1, e2] pos) C.env whole) (tAnd m1 m2) := by
  intro X P U σ s Q R b hb k
  unfold tAnd at hb
  split at hb
  · rename_i e
    refine isTrue_and (h1 X P U σ s _ R true e fun s₁ K => ?_)
    simp only [if_true]
    refine isTrue_and (h2 X P U σ s₁ _ (R.keeps K) b hb fun s₂ K' => ?_)
    cases b with
    | true => simp only [if_true]; exact isTrue_and_nil (k _ (keeps_trans K K'))
    | false => simp only [Bool.false_eq_true, if_false]; exact k _ (keeps_trans K K')
  · rename_i e
    cases hb
    refine isTrue_and (h1 X P U σ s _ R false e fun s₁ K => ?_)
    simp only [Bool.false_eq_true, if_false]
    exact k _ K
  · cases hb
theorem ST_or2 {C : Cx} {e1 e2 : Expr} {pos : Pos} {whole : Sem Value} {m1 m2 : Ft} (h1 : ST C (isTrue e1 C.env (eval e1 C.env)) m1) (h2 : ST C (isTrue e2 C.env (eval e2 C.env)) m2) :
    ST C (isTrue (.BoolOp .Or [e1, e2] pos) C.env whole) (tOr m1 m2) := by
  intro X P U σ s Q R b hb k
  unfold tOr at hb
  split at hb
  · rename_i e
    refine isTrue_or (h1 X P U σ s _ R false e fun s₁ K => ?_)
    simp only [Bool.false_eq_true, if_false]
    refine isTrue_or (h2 X P U σ s₁ _ (R.keeps K) b hb fun s₂ K' => ?_)
    cases b with
    | true => simp only [if_true]; exact k _ (keeps_trans K K')
    | false => simp only [Bool.false_eq_true, if_false]; exact isTrue_or_nil (k _ (keeps_trans K K'))
  · rename_i e
    cases hb
    refine isTrue_or (h1 X P U σ s _ R true e fun s₁ K => ?_)
    simp only [if_true]
    exact k _ K
  · cases hb
/-- any other expression as a test -/
theorem ST_val {C : Cx} {e : Expr} {m : Fe} (h : SE C (eval e C.env) m) (he : isTrue e C.env (eval e C.env) = (do let v ← eval e C.env; standAt e.pos; holding [v] (truthy v)) := by rfl) :
    ST C (isTrue e C.env (eval e C.env)) (tOf m) := by
  intro X P U σ s Q R b hb k
  unfold tOf at hb
  split at hb
  · rename_i d hd
    exact isTrue_plain (h X P U σ s _ R d hd fun v s₁ K r => truth_of r hb fun s₂ K' => k s₂ (keeps_trans K K')) he
  · cases hb

/- ---- a conditional expression ---- -/
noncomputable def eIf (t : Ft) (m1 m2 : Fe) : Fe := fun σ => match t σ with | some true => m1 σ | some false => m2 σ | none => none
theorem SE_if {C : Cx} {t b o : Expr} {pos : Pos} {mt : Ft} {m1 m2 : Fe} (ht : ST C (isTrue t C.env (eval t C.env)) mt) (h1 : SE C (eval b C.env) m1) (h2 : SE C (eval o C.env) m2) :
    SE C (eval (.IfExp t b o pos) C.env) (eIf mt m1 m2) := by
  intro X P U σ s Q R d hd k
  unfold eIf at hd
  split at hd
  · rename_i e
    refine IfExp_ (ht X P U σ s _ R true e fun s₁ K => ?_)
    simp only [if_true]
    exact h1 X P U σ s₁ _ (R.keeps K) d hd fun v s₂ K' r => k v s₂ (keeps_trans K K') r
  · rename_i e
    refine IfExp_ (ht X P U σ s _ R false e fun s₁ K => ?_)
    simp only [Bool.false_eq_true, if_false]
    exact h2 X P U σ s₁ _ (R.keeps K) d hd fun v s₂ K' r => k v s₂ (keeps_trans K K') r
  · cases hd
/-- a conditional expression that hands on a borrowed value -/
theorem SB_if {C : Cx} {t b o : Expr} {pos : Pos} {mt : Ft} {m1 m2 : Fe} (ht : ST C (isTrue t C.env (eval t C.env)) mt) (h1 : SB C (eval b C.env) m1) (h2 : SB C (eval o C.env) m2) :
    SB C (eval (.IfExp t b o pos) C.env) (eIf mt m1 m2) := by
  intro X P U σ s Q R d hd k
  unfold eIf at hd
  split at hd
  · rename_i e
    refine IfExp_ (ht X P U σ s _ R true e fun s₁ K => ?_)
    simp only [if_true]
    exact h1 X P U σ s₁ _ (R.keeps K) d hd fun v s₂ K' r => k v s₂ (keeps_trans K K') r
  · rename_i e
    refine IfExp_ (ht X P U σ s _ R false e fun s₁ K => ?_)
    simp only [Bool.false_eq_true, if_false]
    exact h2 X P U σ s₁ _ (R.keeps K) d hd fun v s₂ K' r => k v s₂ (keeps_trans K K') r
  · cases hd

/- ---- an item ---- -/
noncomputable def nth (ds : List D) : Int → Option D
  | .ofNat n => ds[n]?
  | .negSucc n => ds.reverse[n]?
noncomputable def dIdx (a i : D) : Option D := match i with
  | .int k => (match small k with
    | true => (match a with | .list ds => nth ds k | .tuple ds => nth ds k | _ => none)
    | false => none)
  | _ => none
theorem nth_cases {ds : List D} {k : Int} {d : D} (h : nth ds k = some d) : (0 ≤ k ∧ ds[k.toNat]? = some d) ∨ (k < 0 ∧ -(ds.length : Int) ≤ k ∧ ds[(k + ds.length).toNat]? = some d) := by
  cases k with
  | ofNat n => left; exact ⟨Int.natCast_nonneg n, h⟩
  | negSucc n =>
    right
    have hl : n < ds.length := by
      have := (List.getElem?_eq_some_iff.mp h).1
      simpa using this
    refine ⟨by omega, by omega, ?_⟩
    have e : (Int.negSucc n + (ds.length : Int)).toNat = ds.length - 1 - n := by omega
    rw [e]
    simp only [nth] at h
    rwa [List.getElem?_reverse hl] at h
theorem IsList_of {h : Heap} {a : Addr} {vs : Array Value} {n : Nat} (e : h.get? a = some (lobj vs n)) : h.IsList a vs := ⟨_, e, rfl, n, rfl⟩
theorem item_at {G : Gx} {A : Around} {U : AS} {s : Shared} {value slice : Expr} {a : Value} {da : D} {k : Int} {u : Tok} {d : D} {Q : Value → Shared → Prop} (r : RdB U s.heap a da) (h : dIdx da (.int k) = some d)
    (hs : ∀ o i, subscripted slice false o i = operate [o, i] (getItem o i)) (q : ∀ v, Rd U s.heap v d → Q v s) : W G A (subscriptTail value slice a (.int k u)) Q s := by
  unfold dIdx at h
  simp only at h
  split at h
  · rename_i hk
    have hk := small_lt hk
    split at h
    · rename_i ds
      obtain ⟨l, vs, n, rfl, hg, hr⟩ := r.list
      have hlen := hr.length
      simp only [Array.length_toList] at hlen
      have hl : s.heap.IsList l vs := IsList_of hg
      rcases nth_cases h with ⟨h0, hx⟩ | ⟨h0, h1, hx⟩
      · obtain ⟨v, hv, hrd⟩ := hr.get hx
        exact tail_any hl.typeIs slot_list_getitem.lookup (wpAny_getItem_list hl h0 (by omega) (by simpa using hv) (q v hrd)) (hs _ _)
      · obtain ⟨v, hv, hrd⟩ := hr.get hx
        exact tail_any hl.typeIs slot_list_getitem.lookup (wpAny_getItem_list_neg hl h0 (by rw [hlen]; exact h1) (by omega) (by rw [hlen]; simpa using hv) (q v hrd)) (hs _ _)
    · rename_i ds
      rcases r with r | ⟨_, _, _, _, _, e, _⟩
      · cases r with
        | tuple hn hg hr =>
          rename_i l vs n
          have hlen := hr.length
          simp only [Array.length_toList] at hlen
          have ht : IsTup s.heap l vs := ⟨_, hg, rfl, n, rfl⟩
          rcases nth_cases h with ⟨h0, hx⟩ | ⟨h0, h1, hx⟩
          · obtain ⟨v, hv, hrd⟩ := hr.get hx
            have hlt : k.toNat < vs.size := by
              have := (List.getElem?_eq_some_iff.mp hx).1
              omega
            exact tail_any ht.typeIs slot_tuple_getitem.lookup (PyProof.Rows.getItem_tuple ht (by omega) (by omega) (seqIndex_of h0 (by omega)) (by simpa using hv) (q v hrd)) (hs _ _)
          · obtain ⟨v, hv, hrd⟩ := hr.get hx
            exact tail_any ht.typeIs slot_tuple_getitem.lookup (PyProof.Rows.getItem_tuple ht (by omega) (by omega) (seqIndex_neg h0 (by rw [hlen]; exact h1)) (by rw [hlen]; simpa using hv) (q v hrd)) (hs _ _)
      · cases e
    · cases h
  · cases h
theorem SE_idx {C : Cx} {e i : Expr} {pos : Pos} {m1 m2 : Fe} (h1 : SB C (eval e C.env) m1) (h2 : SE C (eval i C.env) m2) (hs : ∀ o x, subscripted i false o x = operate [o, x] (getItem o x) := by intro _ _; rfl) :
    SE C (eval (.Subscript e i pos) C.env) (bind2 dIdx m1 m2) := by
  intro X P U σ s Q R d hd k
  obtain ⟨a, b, e1, e2, hf⟩ := bind2_some hd
  refine Subscript_ (h1 X P U σ s _ R a e1 fun v s₁ K r1 => ?_)
  refine h2 X P U σ s₁ _ (R.keeps K) b e2 fun w s₂ K' r2 => ?_
  have hi : ∃ kk, b = .int kk := by
    unfold dIdx at hf
    split at hf
    · exact ⟨_, rfl⟩
    · cases hf
  obtain ⟨kk, rfl⟩ := hi
  cases r2
  exact item_at (r1.kept (keeps_get K')) hf hs fun v' r' => k v' s₂ (keeps_trans K K') r'
end Pf

namespace Pf
open PySem PySem.Calls PyProof.Rows

noncomputable def short (l : List D) : Bool := Nat.ble l.length 4096
theorem short_le {l : List D} (h : short l = true) : l.length ≤ 4096 := Nat.le_of_ble_eq_true h
theorem get_size_none1 (h : Heap) : h.get? (h.objs.size + 1) = none := by
  cases e : h.get? (h.objs.size + 1) with
  | none => rfl
  | some o => exact absurd (Heap.lt_size e) (Nat.not_lt.mpr (Nat.le_succ _))
theorem fresh_none {s s' : Shared} (K : Keeps s s') : s.heap.get? s'.heap.objs.size = none := by
  cases e : s.heap.get? s'.heap.objs.size with
  | none => rfl
  | some o => exact absurd (Heap.lt_size (keeps_get K _ _ e)) (Nat.lt_irrefl _)
theorem fresh_none1 {s s' : Shared} (K : Keeps s s') : s.heap.get? (s'.heap.objs.size + 1) = none := by
  cases e : s.heap.get? (s'.heap.objs.size + 1) with
  | none => rfl
  | some o => exact absurd (Heap.lt_size (keeps_get K _ _ e)) (Nat.not_lt.mpr (Nat.le_succ _))

/- ---- new lists ---- -/
/-- a + b -/
noncomputable def oCat (m1 m2 : Fe) : Fl := fun σ => match m1 σ with
  | some (.list a) => (match m2 σ with
    | some (.list b) => (match short (a ++ b) with | true => some (a ++ b) | false => none)
    | _ => none)
  | _ => none
theorem SO_cat {C : Cx} {l r : Expr} {pos : Pos} {m1 m2 : Fe} (h1 : SB C (eval l C.env) m1) (h2 : SB C (eval r C.env) m2) : SO C (eval (.BinOp l .Add r pos) C.env) (oCat m1 m2) := by
  intro X P U σ s Q R ds hd k
  unfold oCat at hd
  split at hd
  · rename_i a ea
    split at hd
    · rename_i b eb
      split at hd <;> cases hd
      rename_i hs
      refine wpAny_BinOp (h1 X P U σ s _ R _ ea fun v s₁ K r1 => ?_)
      refine h2 X P U σ s₁ _ (R.keeps K) _ eb fun w s₂ K' r2 => ?_
      obtain ⟨p, vs, n, rfl, hg, hr⟩ := (r1.kept (keeps_get K')).list
      obtain ⟨q, ws, n', rfl, hg', hr'⟩ := r2.list
      have l1 := hr.length
      have l2 := hr'.length
      have l3 := short_le hs
      simp only [Array.length_toList, List.length_append] at l1 l2 l3
      refine PySem.P.add_list hg hg' (k _ (vs ++ ws) 0 _ (keeps_trans (keeps_trans K K') (keeps_push s₂ _)) (fresh_none (keeps_trans K K')) (Heap.get?_push_size _ rfl) ?_) (by rw [sl]; omega)
      rw [Array.toList_append]
      exact ((hr.append hr').fresh (get_size_none _)).kept fun b o e => Heap.get?_push_of_some _ e
    · cases hd
  · cases hd
/-- a * n -/
noncomputable def rep (ds : List D) : Nat → List D
  | 0 => []
  | n + 1 => ds ++ rep ds n
theorem rep_eq (ds : List D) : ∀ n, rep ds n = (List.replicate n ds).flatten
  | 0 => rfl
  | n + 1 => by simp [rep, List.replicate_succ, rep_eq ds n]
noncomputable def oRep (m1 m2 : Fe) : Fl := fun σ => match m1 σ with
  | some (.list a) => (match m2 σ with
    | some (.int i) => (match small i with
      | true => (match Nat.ble (a.length * i.toNat) 4096 with | true => some (rep a i.toNat) | false => none)
      | false => none)
    | _ => none)
  | _ => none
theorem mul_list0 {G : Gx} {A : Around} {s : Shared} {l : Addr} {items : Array Value} {k : Nat} {x : Int} {u : Tok} {Q : Value → Shared → Prop}
    (hl : s.heap.get? l = some (lobj items k)) (hlo : -(2 ^ 63 : Int) ≤ x) (hhi : x < 2 ^ 63) (hsz : items.size * x.toNat ≤ 2 ^ 20)
    (h : Q (.ref s.heap.objs.size) { s with heap := s.heap.push (lobj (List.replicate x.toNat items.toList).flatten.toArray 0) }) :
    W G A (binaryOp .Mult (.ref l) (.int x u)) Q s := by
  refine wpAny_binaryOp_repeat_ref (T := "list") (U := "int") (by decide) ⟨_, hl, rfl⟩ (fun s' => typeIs_int s' x u) noFill_list_mul F.fills_int_mul F.slot_int_rmul repeat_list F.slot_int_index.lookup
    (call_meets F.slot_int_rmul (typeIs_int s x u) F.entry_int_rmul (F.args_int_rmul_2 _ _) (int___rmul___int_list x u l items k)
      ⟨hl, rfl, ⟨_, hl, rfl⟩, call_meets F.slot_list_mul ⟨_, hl, rfl⟩ F.entry_list_mul (F.args_list_mul_2 _ _)
        (AutoListH.list___mul___list_int_3 l items k x u (by simp [Builtin.List.listFitsIndex]; omega) (by omega) (by simp [Builtin.List.listTooLong, sizeLine]; omega))
        ⟨hl, ?_⟩⟩)
  rw [listMul_foldl_if]
  exact h
theorem SO_rep {C : Cx} {l r : Expr} {pos : Pos} {m1 m2 : Fe} (h1 : SB C (eval l C.env) m1) (h2 : SE C (eval r C.env) m2) : SO C (eval (.BinOp l .Mult r pos) C.env) (oRep m1 m2) := by
  intro X P U σ s Q R ds hd k
  unfold oRep at hd
  split at hd
  · rename_i a ea
    split at hd
    · rename_i i ei
      split at hd
      · rename_i hs
        split at hd <;> cases hd
        rename_i hb
        refine wpAny_BinOp (h1 X P U σ s _ R _ ea fun v s₁ K r1 => ?_)
        refine h2 X P U σ s₁ _ (R.keeps K) _ ei fun w s₂ K' r2 => ?_
        obtain ⟨p, vs, n, rfl, hg, hr⟩ := (r1.kept (keeps_get K')).list
        cases r2
        have l1 := hr.length
        simp only [Array.length_toList] at l1
        have h3 := Nat.le_of_ble_eq_true hb
        have h4 := small_lt hs
        rw [← l1] at h3
        refine mul_list0 hg (by omega) (by omega) (by omega) (k _ _ 0 _ (keeps_trans (keeps_trans K K') (keeps_push s₂ _)) (fresh_none (keeps_trans K K')) (Heap.get?_push_size _ rfl) ?_)
        rw [rep_eq]
        exact ((hr.replicate _).fresh (get_size_none _)).kept fun b o e => Heap.get?_push_of_some _ e
      · cases hd
    · cases hd
  · cases hd

/- ---- slices of a list ---- -/
theorem eval_Slice3 (lower upper step : Option Expr) (pos : Pos) (env : Env) : eval (.Slice lower upper step pos) env = (do
    let l ← valueOrNone (evalOpt lower env)
    let u ← holding [l] (valueOrNone (evalOpt upper env))
    let s ← holding [l, u] (valueOrNone (evalOpt step env))
    newFields "slice" [l, u, s]) := rfl
/-- the slice object, its three parts read -/
theorem slice_obj {G : Gx} {A : Around} {env : Env} {s : Shared} {lower upper step : Option Expr} {pos : Pos} {Q : Value → Shared → Prop}
    (h : W G A (valueOrNone (evalOpt lower env)) (fun l s₁ => W G A (valueOrNone (evalOpt upper env)) (fun u s₂ => W G A (valueOrNone (evalOpt step env)) (fun c s₃ =>
      Q (.ref s₃.heap.objs.size) { s₃ with heap := s₃.heap.push { cls := .type "slice", data := .fields #[l, u, c] } }) s₂) s₁) s) :
    W G A (eval (.Slice lower upper step pos) env) Q s := by
  rw [eval_Slice3]
  refine wpAny_bind (wpAny_mono h (fun l s₁ h₁ => ?_) fun _ _ f => f)
  refine wpAny_bind (wpAny_holding (wpAny_mono h₁ (fun u s₂ h₂ => ?_) fun _ _ f => f))
  refine wpAny_bind (wpAny_holding (wpAny_mono h₂ (fun c s₃ h₃ => ?_) fun _ _ f => f))
  exact wpAny_newObj_type h₃
theorem slice_tail {G : Gx} {A : Around} {s : Shared} {value : Expr} {lower upper step : Option Expr} {pos : Pos} {l : Addr} {items : Array Value} {n : Nat} {vl vu vk : Value} {lo hi st : Option Int} {Q : Value → Shared → Prop}
    (hl : s.heap.get? l = some (lobj items n)) (pl : IsPart vl lo) (pu : IsPart vu hi) (pk : IsPart vk st) (h0 : st ≠ some 0) (hsz : items.size ≤ 4096)
    (h : Q (.ref (s.heap.objs.size + 1)) { s with heap := (s.heap.push { cls := .type "slice", data := .fields #[vl, vu, vk] }).push (lobj (slicePick items lo hi st) 0) }) :
    W G A (subscriptTail value (.Slice lower upper step pos) (.ref l) (.ref s.heap.objs.size)) Q { s with heap := s.heap.push { cls := .type "slice", data := .fields #[vl, vu, vk] } } := by
  have hl' := (IsList_of hl)
  have hL : Heap.IsList (s.heap.push { cls := .type "slice", data := .fields #[vl, vu, vk] }) l items := hl'.push _
  have hs : ∃ ops, subscripted (.Slice lower upper step pos) false (.ref l) (.ref s.heap.objs.size) = operate ops (getItem (.ref l) (.ref s.heap.objs.size)) := by
    cases step with
    | none => exact ⟨_, rfl⟩
    | some e => exact ⟨_, rfl⟩
  obtain ⟨ops, hs⟩ := hs
  refine tail_any (Heap.IsList.typeIs (s := { s with heap := s.heap.push { cls := .type "slice", data := .fields #[vl, vu, vk] } }) hL) list_getitem_lookup
    (wpAny_getItem_list_slice hL (Heap.IsSliceOf.new ..) pl pu pk h0 ?_ (by rw [sl]; omega)) hs
  show Q (.ref (s.heap.push _).objs.size) _
  rw [Heap.size_push]
  exact h
/-- a[lo:hi], a[:hi], a[lo:] with bounds that are not negative -/
noncomputable def oSl (m : Fe) (lo hi : Option Fe) : Fl := fun σ => match m σ with
  | some (.list a) => (match short a with
    | false => none
    | true => (match lo with
      | none => (match hi with
        | none => some a
        | some h => (match h σ with | some (.int (.ofNat n)) => some (a.take n) | _ => none))
      | some l => (match l σ with
        | some (.int (.ofNat n)) => (match hi with
          | none => some (a.drop n)
          | some _ => none)
        | _ => none)))
  | _ => none
theorem SO_upto {C : Cx} {e u : Expr} {p pos : Pos} {m mu : Fe} (h : SB C (eval e C.env) m) (hu : SE C (eval u C.env) mu) : SO C (eval (.Subscript e (.Slice none (some u) none p) pos) C.env) (oSl m none (some mu)) := by
  intro X P U σ s Q R ds hd k
  unfold oSl at hd
  split at hd
  · rename_i a ea
    split at hd
    · cases hd
    · rename_i hs
      simp only at hd
      split at hd <;> cases hd
      rename_i n en
      refine Subscript_ (h X P U σ s _ R _ ea fun v s₁ K r1 => ?_)
      refine slice_obj (wpAny_pure (hu X P U σ s₁ _ (R.keeps K) _ en fun w s₂ K' r2 => wpAny_pure ?_))
      obtain ⟨l, vs, nn, rfl, hg, hr⟩ := (r1.kept (keeps_get K')).list
      cases r2
      have l1 := hr.length
      have l3 := short_le hs
      simp only [Array.length_toList] at l1
      refine slice_tail hg .none (.int _ _) .none (by simp) (by omega) (k _ (slicePick vs none (some (Int.ofNat n)) none) 0 _ (keeps_trans (keeps_trans K K') (keeps_push2 s₂ _ _)) (fresh_none1 (keeps_trans K K')) ?_ ?_)
      · rw [show s₂.heap.objs.size + 1 = (s₂.heap.push { cls := .type "slice", data := .fields #[Value.none, .int (Int.ofNat n) _, Value.none] }).objs.size from (Heap.size_push _ _).symm]
        exact Heap.get?_push_size _ rfl
      · have e1 : slicePick vs none (some (Int.ofNat n)) none = (vs.toList.take n).toArray := slicePick_upto' vs n
        rw [e1]
        exact ((hr.take n).fresh (get_size_none1 _)).kept fun b o e => Heap.get?_push_of_some _ (Heap.get?_push_of_some _ e)
  · cases hd
theorem SO_from {C : Cx} {e u : Expr} {p pos : Pos} {m mu : Fe} (h : SB C (eval e C.env) m) (hu : SE C (eval u C.env) mu) : SO C (eval (.Subscript e (.Slice (some u) none none p) pos) C.env) (oSl m (some mu) none) := by
  intro X P U σ s Q R ds hd k
  unfold oSl at hd
  split at hd
  · rename_i a ea
    split at hd
    · cases hd
    · rename_i hs
      simp only at hd
      split at hd <;> cases hd
      rename_i n en
      refine Subscript_ (h X P U σ s _ R _ ea fun v s₁ K r1 => ?_)
      refine slice_obj (hu X P U σ s₁ _ (R.keeps K) _ en fun w s₂ K' r2 => wpAny_pure (wpAny_pure ?_))
      obtain ⟨l, vs, nn, rfl, hg, hr⟩ := (r1.kept (keeps_get K')).list
      cases r2
      have l1 := hr.length
      have l3 := short_le hs
      simp only [Array.length_toList] at l1
      refine slice_tail hg (.int _ _) .none .none (by simp) (by omega) (k _ (slicePick vs (some (Int.ofNat n)) none none) 0 _ (keeps_trans (keeps_trans K K') (keeps_push2 s₂ _ _)) (fresh_none1 (keeps_trans K K')) ?_ ?_)
      · rw [show s₂.heap.objs.size + 1 = (s₂.heap.push { cls := .type "slice", data := .fields #[.int (Int.ofNat n) _, Value.none, Value.none] }).objs.size from (Heap.size_push _ _).symm]
        exact Heap.get?_push_size _ rfl
      · have e1 : slicePick vs (some (Int.ofNat n)) none none = (vs.toList.drop n).toArray := slicePick_from' vs n
        rw [e1]
        exact ((hr.drop n).fresh (get_size_none1 _)).kept fun b o e => Heap.get?_push_of_some _ (Heap.get?_push_of_some _ e)
  · cases hd
/-- a[::-1] -/
noncomputable def oRev (m : Fe) : Fl := fun σ => match m σ with
  | some (.list a) => (match short a with | true => some a.reverse | false => none)
  | _ => none
theorem SO_rev {C : Cx} {e u : Expr} {p pos : Pos} {m : Fe} (h : SB C (eval e C.env) m) (hu : SE C (eval u C.env) (bind1 dNeg (eC (.int 1)))) : SO C (eval (.Subscript e (.Slice none none (some u) p) pos) C.env) (oRev m) := by
  intro X P U σ s Q R ds hd k
  unfold oRev at hd
  split at hd
  · rename_i a ea
    split at hd <;> cases hd
    rename_i hs
    refine Subscript_ (h X P U σ s _ R _ ea fun v s₁ K r1 => ?_)
    refine slice_obj (wpAny_pure (wpAny_pure (hu X P U σ s₁ _ (R.keeps K) (.int (-1)) rfl fun w s₂ K' r2 => ?_)))
    obtain ⟨l, vs, nn, rfl, hg, hr⟩ := (r1.kept (keeps_get K')).list
    cases r2
    have l1 := hr.length
    have l3 := short_le hs
    simp only [Array.length_toList] at l1
    refine slice_tail hg .none .none (.int _ _) (by simp) (by omega) (k _ (slicePick vs none none (some (-1))) 0 _ (keeps_trans (keeps_trans K K') (keeps_push2 s₂ _ _)) (fresh_none1 (keeps_trans K K')) ?_ ?_)
    · rw [show s₂.heap.objs.size + 1 = (s₂.heap.push { cls := .type "slice", data := .fields #[Value.none, Value.none, .int (-1) _] }).objs.size from (Heap.size_push _ _).symm]
      exact Heap.get?_push_size _ rfl
    · rw [PySem.W.krv_pick]
      exact (hr.reverse.fresh (get_size_none1 _)).kept fun b o e => Heap.get?_push_of_some _ (Heap.get?_push_of_some _ e)
  · cases hd
end Pf

namespace Pf
open PySem PySem.Calls PyProof.Rows

/- ---- names of the module and built-in names ---- -/
theorem ld_glob {C : Cx} (O : C.Ok) {X P U : AS} {σ : St} {s : Shared} (R : Rel C X P U σ s) {f : Str} {pos : Pos} {v : Value} {Q : Value → Shared → Prop} (hk : C.env.kindOf f = some .globalImplicit)
    (hv : C.G.mg f = some v) (h : Q v s) (hd : (f == ("__debug__" : Str)) = false) : W C.G C.A (eval (.Name f pos) C.env) Q s :=
  Name_function_global O.kind hk (loadGlobal_global (by rw [O.glob]; exact (R.T O).g) hv h) hd
theorem ld_blt {C : Cx} (O : C.Ok) {X P U : AS} {σ : St} {s : Shared} (R : Rel C X P U σ s) {f : Str} {pos : Pos} {v : Value} {Q : Value → Shared → Prop} (hk : C.env.kindOf f = some .globalImplicit)
    (hm : f ∈ bltNames) (hv : bootBuiltins f = some v) (h : Q v s) (hd : (f == ("__debug__" : Str)) = false) (hn : f ≠ "__name__") : W C.G C.A (eval (.Name f pos) C.env) Q s :=
  Name_function_global O.kind hk (loadGlobal_builtin (by rw [O.glob]; exact (R.T O).g) (O.g.blt f hm) (by rw [O.blt]; exact (R.T O).b) (((R.T O).builtins f hn).trans hv) h) hd

theorem evalArgs_ns {G : Gx} {A : Around} {f : Value} {args : List (Bool × Sem Value)} {s : Shared} {Q : Args → Shared → Prop} (hne : args ≠ []) (hany : args.any (·.1) = false) (h : W G A (spliced args) (fun vs s' => Q ⟨vs, []⟩ s') s) :
    W G A (evalArgs f true args []) Q s := by
  cases args with
  | nil => exact absurd rfl hne
  | cons a rest =>
    obtain ⟨b, x⟩ := a
    cases b with
    | true => simp at hany
    | false => exact evalArgs_plain h

/- ---- a call of a def of the text ---- -/
noncomputable def Call1 (G : Gx) (n : Nat) (v : Value) (F : List D → Option D) : Prop :=
  ∀ A X s vs ds d (Q : Value → Shared → Prop), A.handled = none → Room A n → (∀ b o, G.h0.get? b = some o → s.heap.get? b = some o ∧ ¬ X b) → (∀ a, X a → ∃ o, s.heap.get? a = some o) →
    Rds X s.heap vs ds → F ds = some d → (∀ v' s', Keeps s s' → Rd X s'.heap v' d → Q v' s') → W G A (call v vs) Q s
noncomputable def SF (G : Gx) (n : Nat) (f : Str) (F : List D → Option D) : Prop :=
  ∃ a o fd, G.mg f = some (.ref a) ∧ G.h0.get? a = some o ∧ o.data = .func fd ∧ Call1 G n (.ref a) F
theorem SF.congr {G : Gx} {n : Nat} {f : Str} {F F' : List D → Option D} (h : SF G n f F) (e : ∀ ds d, F' ds = some d → F ds = some d) : SF G n f F' := by
  obtain ⟨a, o, fd, h1, h2, h3, h4⟩ := h
  exact ⟨a, o, fd, h1, h2, h3, fun A X s vs ds d Q hA hR hb hx hr hf k => h4 A X s vs ds d Q hA hR hb hx hr (e _ _ hf) k⟩
noncomputable def bindL (F : List D → Option D) (m : Fl) : Fe := fun σ => match m σ with | some ds => F ds | none => none
theorem starEach_ne {e : Expr} {es : List Expr} {env : Env} {pos : Pos} : backTo pos (starEach (e :: es) env) ≠ [] := by
  cases e <;> simp [starEach, backTo]
theorem SE_call {C : Cx} (O : C.Ok) {f : Str} {e : Expr} {es : List Expr} {p pos : Pos} {m : Fl} {F : List D → Option D} {n : Nat} (hS : SF C.G n f F) (hn : n ≤ C.lv) (hk : C.env.kindOf f = some .globalImplicit) (hl : SL C (e :: es) m)
    (hd : (f == ("__debug__" : Str)) = false := by decide) : SE C (eval (.Call (.Name f p) (e :: es) [] pos) C.env) (bindL F m) := by
  intro X P U σ s Q R d hd' k
  obtain ⟨a, o, fd, h1, h2, h3, h4⟩ := hS
  unfold bindL at hd'
  split at hd'
  · rename_i ds hm
    refine wpAny_Call_NameR (ld_glob O R hk h1 ?_ hd)
    refine callWith_function (o := o) (fd := fd) (evalArgs_ns starEach_ne (hl.1 _ _) (hl.2 _ X P U σ s _ R ds hm fun vs s' K r => ?_))
    refine ⟨⟨keeps_get K _ _ (R.base _ _ h2).1, h3⟩, ?_⟩
    have R' := R.keeps K
    refine h4 C.A U s' vs ds d Q O.hd (O.room.mono hn) (fun b o e => ?_) R'.ul r hd' fun v' s'' K' r' => k v' s'' (keeps_trans K K') r'
    obtain ⟨q1, q2, q3⟩ := R'.base b o e
    exact ⟨q1, fun q => (R'.pu b q).elim q3 fun z => z q2⟩
  · cases hd'
/-- a call whose arguments may be owned lists, and whose value is no object -/
noncomputable def bindF (F : List D → Option D) (m : Fl) : Fe := fun σ => match m σ with
  | some ds => (match F ds with | some d => (match flat d with | true => some d | false => none) | none => none)
  | none => none
theorem SE_callB {C : Cx} (O : C.Ok) {f : Str} {e : Expr} {es : List Expr} {p pos : Pos} {m : Fl} {F : List D → Option D} {n : Nat} (hS : SF C.G n f F) (hn : n ≤ C.lv) (hk : C.env.kindOf f = some .globalImplicit) (hl : SLB C (e :: es) m)
    (hd : (f == ("__debug__" : Str)) = false := by decide) : SE C (eval (.Call (.Name f p) (e :: es) [] pos) C.env) (bindF F m) := by
  intro X P U σ s Q R d hd' k
  obtain ⟨a, o, fd, h1, h2, h3, h4⟩ := hS
  unfold bindF at hd'
  split at hd'
  · rename_i ds hm
    split at hd'
    · rename_i d' hF
      split at hd' <;> cases hd'
      rename_i hfl
      refine wpAny_Call_NameR (ld_glob O R hk h1 ?_ hd)
      refine callWith_function (o := o) (fd := fd) (evalArgs_ns starEach_ne (hl.1 _ _) (hl.2 _ X P U σ s _ R ds hm fun vs s' K r => ?_))
      refine ⟨⟨keeps_get K _ _ (R.base _ _ h2).1, h3⟩, ?_⟩
      have R' := R.keeps K
      exact h4 C.A (fun _ => False) s' vs ds _ Q O.hd (O.room.mono hn) (fun b o e => ⟨(R'.base b o e).1, fun q => q⟩) (fun _ q => q.elim) r.free hF fun v' s'' K' r' => k v' s'' (keeps_trans K K') (r'.flat hfl)
    · cases hd'
  · cases hd'

/- ---- built-in functions ---- -/
noncomputable def Bl (G : Gx) (n : Nat) (v : Value) (F : List D → Option D) : Prop :=
  ∀ A U s vs ds d (Q : Value → Shared → Prop), A.handled = none → Room A n → RdBs U s.heap vs ds → F ds = some d → (∀ v' s', Keeps s s' → Rd U s'.heap v' d → Q v' s') → W G A (call v vs) Q s
noncomputable def BlO (G : Gx) (n : Nat) (v : Value) (F : List D → Option (List D)) : Prop :=
  ∀ A U s vs ds es (Q : Value → Shared → Prop), A.handled = none → Room A n → RdBs U s.heap vs ds → F ds = some es →
    (∀ a ws c s', Keeps s s' → s.heap.get? a = none → s'.heap.get? a = some (lobj ws c) → Rds (fun b => U b ∨ b = a) s'.heap ws.toList es → Q (.ref a) s') → W G A (call v vs) Q s
/-- where the value called is a built-in function or a built-in type -/
noncomputable def Bv (v : Value) : Prop := (∃ id, v = .builtin id) ∨ ∃ T, v = .type T
theorem callWith_bv {G : Gx} {A : Around} {s : Shared} {pos : Pos} {v : Value} (hv : Bv v) {args : List (Bool × Sem Value)} {Q : Value → Shared → Prop} (hne : args ≠ []) (hany : args.any (·.1) = false)
    (h : W G A (spliced args) (fun vs s₁ => W G A (call v vs) Q s₁) s) : W G A (callWith pos v [] args []) Q s := by
  rcases hv with ⟨id, rfl⟩ | ⟨T, rfl⟩
  · exact Calls.callWith_builtin hany (evalArgs_ns hne hany h)
  · exact PyProof.Rows.callWith_type hany (evalArgs_ns hne hany h)
theorem SE_blt {C : Cx} (O : C.Ok) {f : Str} {e : Expr} {es : List Expr} {p pos : Pos} {v : Value} {m : Fl} {F : List D → Option D} (hF : ∀ G n, Bl G n v F) (hb : bootBuiltins f = some v) (hv : Bv v) (hm : f ∈ bltNames)
    (hk : C.env.kindOf f = some .globalImplicit) (hl : SLB C (e :: es) m) (hd : (f == ("__debug__" : Str)) = false := by decide) (hn : f ≠ "__name__" := by decide) : SE C (eval (.Call (.Name f p) (e :: es) [] pos) C.env) (bindL F m) := by
  intro X P U σ s Q R d hd' k
  unfold bindL at hd'
  split at hd'
  · rename_i ds hm'
    refine wpAny_Call_NameR (ld_blt O R hk hm hb ?_ hd hn)
    refine callWith_bv hv starEach_ne (hl.1 _ _) (hl.2 _ X P U σ s _ R ds hm' fun vs s' K r => ?_)
    exact hF C.G C.lv C.A U s' vs ds d Q O.hd O.room r hd' fun v' s'' K' r' => k v' s'' (keeps_trans K K') r'
  · cases hd'
noncomputable def bindLO (F : List D → Option (List D)) (m : Fl) : Fl := fun σ => match m σ with | some ds => F ds | none => none
theorem SO_blt {C : Cx} (O : C.Ok) {f : Str} {e : Expr} {es : List Expr} {p pos : Pos} {v : Value} {m : Fl} {F : List D → Option (List D)} (hF : ∀ G n, BlO G n v F) (hb : bootBuiltins f = some v) (hv : Bv v) (hm : f ∈ bltNames)
    (hk : C.env.kindOf f = some .globalImplicit) (hl : SLB C (e :: es) m) (hd : (f == ("__debug__" : Str)) = false := by decide) (hn : f ≠ "__name__" := by decide) : SO C (eval (.Call (.Name f p) (e :: es) [] pos) C.env) (bindLO F m) := by
  intro X P U σ s Q R d hd' k
  unfold bindLO at hd'
  split at hd'
  · rename_i ds hm'
    refine wpAny_Call_NameR (ld_blt O R hk hm hb ?_ hd hn)
    refine callWith_bv hv starEach_ne (hl.1 _ _) (hl.2 _ X P U σ s _ R ds hm' fun vs s' K r => ?_)
    refine hF C.G C.lv C.A U s' vs ds d Q O.hd O.room r hd' fun a ws c s'' K' hn hg r' => k a ws c s'' (keeps_trans K K') ?_ hg r'
    cases e : s.heap.get? a with
    | none => rfl
    | some o => rw [keeps_get K _ _ e] at hn; cases hn
  · cases hd'

noncomputable def fLen : List D → Option D
  | [.list ds] => (match short ds with | true => some (.int ds.length) | false => none)
  | _ => none
theorem bl_len (G : Gx) (n : Nat) : Bl G n (.builtin "len") fLen := by
  intro A U s vs ds d Q hA hR r hF k
  unfold fLen at hF
  split at hF
  · rename_i l
    split at hF <;> cases hF
    rename_i hs
    cases r with
    | cons r1 r2 =>
      cases r2
      obtain ⟨a, ws, c, rfl, hg, hr⟩ := r1.list
      have l1 := hr.length
      have l2 := short_le hs
      simp only [Array.length_toList] at l1
      refine call_len_list (IsList_of hg) (by omega) ?_
      rw [l1]
      exact k _ _ (keeps_tok s _) (.int _ _)
  · cases hF
noncomputable def fMax : List D → Option D
  | [.int a, .int b] => (match PySem.W.Z.ltB a b with | true => some (.int b) | false => some (.int a))
  | _ => none
theorem bl_max (G : Gx) (n : Nat) : Bl G n (.builtin "max") fMax := by
  intro A U s vs ds d Q hA hR r hF k
  unfold fMax at hF
  split at hF
  · rename_i a b
    cases r with
    | cons r1 r2 =>
      cases r2 with
      | cons r2 r3 =>
        cases r3
        cases r1.free with
        | int _ t =>
          cases r2.free with
          | int _ u =>
            refine max_two_ints hA fun h' tk hk => ?_
            rw [ltB_dec] at hF
            by_cases c : a < b
            · rw [if_pos c]; simp [c] at hF; subst hF; exact k _ _ (keeps_heap hk) (.int _ _)
            · rw [if_neg c]; simp [c] at hF; subst hF; exact k _ _ (keeps_heap hk) (.int _ _)
  · cases hF
noncomputable def fAbs : List D → Option D
  | [.int a] => (match PySem.W.Z.ltB a 0 with | true => some (.int (-a)) | false => some (.int a))
  | _ => none
theorem bl_abs (G : Gx) (n : Nat) : Bl G n (.builtin "abs") fAbs := by
  intro A U s vs ds d Q hA hR r hF k
  unfold fAbs at hF
  split at hF
  · rename_i a
    cases r with
    | cons r1 r2 =>
      cases r2
      cases r1.free with
      | int _ t =>
        refine call_abs_int fun u tk => ?_
        rw [ltB_dec] at hF
        by_cases c : a < 0
        · rw [if_pos c]; simp [c] at hF; subst hF; exact k _ _ (keeps_tok s _) (.int _ _)
        · rw [if_neg c]; simp [c] at hF; subst hF; exact k _ _ (keeps_tok s _) (.int _ _)
  · cases hF
noncomputable def fList : List D → Option (List D)
  | [.list ds] => (match short ds with | true => some ds | false => none)
  | _ => none
theorem bl_list (G : Gx) (n : Nat) : BlO G n (.type "list") fList := by
  intro A U s vs ds d Q hA hR r hF k
  unfold fList at hF
  split at hF
  · rename_i l
    split at hF <;> cases hF
    rename_i hs
    cases r with
    | cons r1 r2 =>
      cases r2
      obtain ⟨a, ws, c, rfl, hg, hr⟩ := r1.list
      have l1 := hr.length
      have l2 := short_le hs
      simp only [Array.length_toList] at l1
      refine call_list_seq a (.inl rfl) hg rfl rfl (fun h' c' hk hn => ?_) (by rw [sl]; omega)
      exact k _ ws c' _ (keeps_heap hk) (get_size_none _) hn ((hr.fresh (get_size_none _)).kept hk)
  · cases hF
end Pf

namespace Pf
open PySem PySem.Calls PyProof.Rows

noncomputable def Sq (o : Obj) : Prop := ∃ vs n, o = lobj vs n ∨ o = tobj vs n
theorem Sq.l (vs : Array Value) (n : Nat) : Sq (lobj vs n) := ⟨vs, n, .inl rfl⟩
theorem Sq.t (vs : Array Value) (n : Nat) : Sq (tobj vs n) := ⟨vs, n, .inr rfl⟩
/-- a change that leaves lists, tuples and what is protected -/
structure QC (P : AS) (h h' : Heap) : Prop where
  kp : ∀ b o, P b → h.get? b = some o → h'.get? b = some o
  kq : ∀ b o, Sq o → h.get? b = some o → h'.get? b = some o
  lv : ∀ b o, h.get? b = some o → ∃ o', h'.get? b = some o'
theorem QC.of_keeps {P : AS} {h h' : Heap} (k : ∀ b o, h.get? b = some o → h'.get? b = some o) : QC P h h' := ⟨fun b o _ e => k b o e, fun b o _ e => k b o e, fun b o e => ⟨o, k b o e⟩⟩
mutual
theorem Rd.quiet {U : AS} {h h' : Heap} (k : ∀ b o, Sq o → h.get? b = some o → h'.get? b = some o) : ∀ {v d}, Rd U h v d → Rd U h' v d
  | _, _, .none => .none
  | _, _, .bool b => .bool b
  | _, _, .int i t => .int i t
  | _, _, .list hn hg hs => .list hn (k _ _ (Sq.l _ _) hg) (hs.quiet k)
  | _, _, .tuple hn hg hs => .tuple hn (k _ _ (Sq.t _ _) hg) (hs.quiet k)
theorem Rds.quiet {U : AS} {h h' : Heap} (k : ∀ b o, Sq o → h.get? b = some o → h'.get? b = some o) : ∀ {v d}, Rds U h v d → Rds U h' v d
  | _, _, .nil => .nil
  | _, _, .cons h1 h2 => .cons (h1.quiet k) (h2.quiet k)
end
theorem SlotOk.quiet {P U : AS} {h h' : Heap} {ρ x} {sl : Slot} (o : SlotOk P U h ρ x sl) (k : ∀ b o, Sq o → h.get? b = some o → h'.get? b = some o) : SlotOk P U h' ρ x sl := by
  cases sl with
  | un => trivial
  | val d => obtain ⟨v, h1, h2⟩ := o; exact ⟨v, h1, h2.quiet k⟩
  | own ds => obtain ⟨a, vs, n, h1, h2, h4, h5, h6⟩ := o; exact ⟨a, vs, n, h1, h2, h4, k _ _ (Sq.l _ _) h5, h6.quiet k⟩

/-- a store into one of the frame's own variables -/
theorem st_name {C : Cx} (O : C.Ok) {X P U : AS} {σ : St} {s : Shared} (R : Rel C X P U σ s) {ρ : Str → Option Value} (F : FrameOk C.env C.names s.heap ρ) {i : Nat} {x : Str} {v : Value} (hi : i < C.ro) (hx : C.names[i]? = some x)
    {Q : Unit → Shared → Prop} (h : ∀ h' tk, QC P s.heap h' → FrameOk C.env C.names h' (upd ρ x v) → Q () { s with heap := h', toks := tk }) : W C.G C.A (storeName C.env x v) Q s := by
  have hm : x ∈ C.names := List.mem_of_getElem? hx
  obtain ⟨h1, h2, h3⟩ := O.var x hm
  obtain ⟨m, hn, hmm⟩ := F.ns
  have hn' := hn
  obtain ⟨oL, es, ep, hoL, hdL, _⟩ := hn'
  rcases h3 with hl | ⟨hc, c, hcl⟩
  · refine wpAny_storeName_local hl hn (fun h' hns hs => h h' _ ⟨fun b o hp e => ?_, fun b o hq e => ?_, fun b o e => ?_⟩ ⟨⟨_, hns, fun y hy => ?_⟩, fun y c hmy hy hc => ?_⟩) (by rw [O.kind]; rfl)
    · exact hs.extBut b o (fun q => R.pL (q ▸ hp)) e
    · refine hs.extBut b o (fun q => ?_) e
      obtain ⟨vs, n, q' | q'⟩ := hq <;> rw [q, hoL] at e <;> cases e <;> rw [q'] at hdL <;> cases hdL
    · by_cases q : b = C.env.locals
      · obtain ⟨o', _, _, e', _⟩ := hns; exact ⟨o', q ▸ e'⟩
      · exact ⟨o, hs.extBut b o q e⟩
    · simp only [upd]
      by_cases q : y = x
      · simp [q]
      · simp [q, hmm y hy]
    · have hne : y ≠ x := fun q => hy (q ▸ hl)
      have hcell := F.cell y c hmy hy hc
      have : upd ρ x v y = ρ y := by simp [upd, hne]
      rw [this]
      exact hcell.sameBut hs fun q => by
        obtain ⟨o, ho, hd⟩ := hcell
        rw [q, hoL] at ho; cases ho; rw [hdL] at hd; cases hd
  · have hne : C.env.kindOf x ≠ some .local := by rcases hc with q | q <;> rw [q] <;> decide
    have hcell := F.cell x c hm hne hcl
    have hcP : ¬ P c := R.pC i x c hi hx hne hcl
    have hk : C.env.kindOf x = some .cell := hc.resolve_right fun q => O.sto i x hi hx q
    obtain ⟨oc, hoc, hdc⟩ := hcell
    have hcL : c ≠ C.env.locals := fun q => by rw [q, hoL] at hoc; cases hoc; rw [hdL] at hdc; cases hdc
    refine wpAny_storeName_cell O.kind hk hcl (F.cell x c hm hne hcl) (fun h' hv hs => h h' s.toks ⟨fun b o hp e => ?_, fun b o hq e => ?_, fun b o e => ?_⟩ ⟨⟨m, hn.sameBut hs (Ne.symm hcL), fun y hy => ?_⟩, fun y c' hmy hy hc' => ?_⟩)
    · exact hs.extBut b o (fun q => hcP (q ▸ hp)) e
    · refine hs.extBut b o (fun q => ?_) e
      obtain ⟨vs, n, q' | q'⟩ := hq <;> rw [q, hoc] at e <;> cases e <;> rw [q'] at hdc <;> cases hdc
    · by_cases q : b = c
      · obtain ⟨o', e', _⟩ := hv; exact ⟨o', q ▸ e'⟩
      · exact ⟨o, hs.extBut b o q e⟩
    · have : y ≠ x := fun q => hne (q ▸ hy)
      simp [upd, this, hmm y hy]
    · by_cases q : y = x
      · have hcc : c' = c := by rw [q, hcl] at hc'; cases hc'; rfl
        rw [hcc]; simpa [upd, q] using hv
      · have : upd ρ x v y = ρ y := by simp [upd, q]
        rw [this]
        exact (F.cell y c' hmy hy hc').sameBut hs fun e => q (O.apart y x c (e ▸ hc') hcl)

theorem idx_inj {l : List Str} (hn : l.Nodup) {i j : Nat} {x : Str} (hi : l[i]? = some x) (hj : l[j]? = some x) : i = j := by
  obtain ⟨h1, e1⟩ := List.getElem?_eq_some_iff.mp hi
  obtain ⟨h2, e2⟩ := List.getElem?_eq_some_iff.mp hj
  have hp := List.pairwise_iff_getElem.mp hn
  rcases Nat.lt_trichotomy i j with h | h | h
  · exact absurd (e1.trans e2.symm) (hp i j h1 h2 h)
  · exact h
  · exact absurd (e2.trans e1.symm) (hp j i h2 h1 h)
theorem upd_ne {ρ : Str → Option Value} {x y : Str} {v : Value} (h : y ≠ x) : upd ρ x v y = ρ y := by simp [upd, h]
theorem upd_eq {ρ : Str → Option Value} {x : Str} {v : Value} : upd ρ x v x = some v := by simp [upd]

/-- the state behind a store -/
theorem Rel.stored {C : Cx} (O : C.Ok) {X P U : AS} {σ : St} {s : Shared} (R : Rel C X P U σ s) {ρ : Str → Option Value} (V : Vars C P U σ s.heap ρ) {i : Nat} {x : Str} {v : Value} (hx : C.names[i]? = some x) (hi : i < C.ro)
    {h' : Heap} {tk : Nat} (q : QC P s.heap h') (F : FrameOk C.env C.names h' (upd ρ x v)) (sl : Slot) (hsl : SlotOk P U s.heap (upd ρ x v) x sl)
    (hone : ∀ ds a, sl = .own ds → v = .ref a → ∀ (j : Nat) y es, j ≠ i → C.names[j]? = some y → σ[j]? = some (.own es) → ρ y ≠ some (.ref a)) :
    Rel C X P U (σ.set i sl) { s with heap := h', toks := tk } ∧ Vars C P U (σ.set i sl) h' (upd ρ x v) := by
  have nofx : ∀ (j : Nat) y, C.pin ≤ j → C.names[j]? = some y → y = x → False := fun j y hj hy q => by
    have e := idx_inj O.nodup hx (q ▸ hy)
    have := O.pr
    omega
  have V' : Vars C P U (σ.set i sl) h' (upd ρ x v) := by
    refine ⟨F, fun j y sl' hy hs => ?_, fun j k y z ds es a hy hz hj hk ey ez => ?_, fun j y hj hy => (upd_ne fun (q : y = x) => nofx j y hj hy q).trans (V.fx j y hj hy)⟩
    · rw [List.getElem?_set] at hs
      by_cases e : i = j
      · rw [if_pos e] at hs
        split at hs
        · cases hs
          subst e
          rw [hx] at hy
          cases hy
          exact hsl.quiet q.kq
        · cases hs
      · rw [if_neg e] at hs
        have hne : y ≠ x := fun q => e (idx_inj O.nodup hx (q ▸ hy))
        have := (V.slot j y sl' hy hs).quiet q.kq
        cases sl' with
        | un => trivial
        | val d => obtain ⟨w, h1, h2⟩ := this; exact ⟨w, (upd_ne hne).trans h1, h2⟩
        | own ds => obtain ⟨a, vs, n, h1, h2⟩ := this; exact ⟨a, vs, n, (upd_ne hne).trans h1, h2⟩
    · rw [List.getElem?_set] at hj hk
      by_cases e1 : i = j <;> by_cases e2 : i = k
      · exact e1.symm.trans e2
      · rw [if_pos e1] at hj
        rw [if_neg e2] at hk
        split at hj
        · cases hj
          subst e1
          rw [hx] at hy
          cases hy
          have hv : v = .ref a := by rw [upd_eq] at ey; exact Option.some.inj ey
          have hne : z ≠ x := fun q => e2 (idx_inj O.nodup hx (q ▸ hz))
          exact absurd ((upd_ne hne).symm.trans ez) (hone ds a rfl hv k z es (Ne.symm e2) hz hk)
        · cases hj
      · rw [if_neg e1] at hj
        rw [if_pos e2] at hk
        split at hk
        · cases hk
          subst e2
          rw [hx] at hz
          cases hz
          have hv : v = .ref a := by rw [upd_eq] at ez; exact Option.some.inj ez
          have hne : y ≠ x := fun q => e1 (idx_inj O.nodup hx (q ▸ hy))
          exact absurd ((upd_ne hne).symm.trans ey) (hone es a rfl hv j y ds (Ne.symm e1) hy hj)
        · cases hk
      · rw [if_neg e1] at hj
        rw [if_neg e2] at hk
        have n1 : y ≠ x := fun q => e1 (idx_inj O.nodup hx (q ▸ hy))
        have n2 : z ≠ x := fun q => e2 (idx_inj O.nodup hx (q ▸ hz))
        exact V.one j k y z ds es a hy hz hj hk ((upd_ne n1).symm.trans ey) ((upd_ne n2).symm.trans ez)
  refine ⟨⟨fun b o e => let ⟨q1, q2⟩ := R.base b o e; ⟨q.kp b o q2.1 q1, q2⟩, R.xu, R.xp, fun a h => let ⟨o, e⟩ := R.ul a h; q.lv a o e, fun a h => let ⟨o, e⟩ := R.pl a h; q.lv a o e, R.pu, R.pL, R.pC, R.xC, by simpa using R.len, ⟨_, V'⟩⟩, V'⟩
end Pf

namespace Pf
open PySem PySem.Calls PyProof.Rows

/-- a new list becomes one that frozen data must avoid -/
theorem Rel.enlarge {C : Cx} {X P U : AS} {σ : St} {s s' : Shared} (R : Rel C X P U σ s) {ρ : Str → Option Value} (V : Vars C P U σ s.heap ρ) (K : Keeps s s') {a : Addr} {o : Obj} (hn : s.heap.get? a = none) (hg : s'.heap.get? a = some o) :
    Rel C X P (fun b => U b ∨ b = a) σ s' ∧ Vars C P (fun b => U b ∨ b = a) σ s'.heap ρ := by
  have V' : Vars C P (fun b => U b ∨ b = a) σ s'.heap ρ := by
    refine ⟨V.fr.kept (keeps_get K), fun i x sl hx hs => ?_, V.one, V.fx⟩
    have := V.slot i x sl hx hs
    cases sl with
    | un => trivial
    | val d => obtain ⟨v, h1, h2⟩ := this; exact ⟨v, h1, (h2.fresh hn).kept (keeps_get K)⟩
    | own ds => obtain ⟨b, vs, n, h1, h2, h4, h5, h6⟩ := this; exact ⟨b, vs, n, h1, .inl h2, h4, keeps_get K _ _ h5, (h6.fresh hn).kept (keeps_get K)⟩
  have xC' : ∀ (i : Nat) x c, C.names[i]? = some x → C.env.kindOf x ≠ some .local → C.env.cells.lookup x = some c → ¬ (U c ∨ c = a) := fun i x c hx hk hc q => by
    obtain ⟨o', ho, _⟩ := V.fr.cell x c (List.mem_of_getElem? hx) hk hc
    rcases q with q | e
    · exact R.xC i x c hx hk hc q
    · rw [e, hn] at ho; cases ho
  refine ⟨⟨fun b o e => let ⟨q1, q2⟩ := R.base b o e; ⟨keeps_get K _ _ q1, q2⟩, fun b h => .inl (R.xu b h), R.xp, fun b h => ?_, fun b h => let ⟨o, e⟩ := R.pl b h; ⟨o, keeps_get K _ _ e⟩, fun b h => ?_, R.pL, R.pC, xC', R.len, ⟨ρ, V'⟩⟩, V'⟩
  · rcases h with h | rfl
    · obtain ⟨o, e⟩ := R.ul b h; exact ⟨o, keeps_get K _ _ e⟩
    · exact ⟨o, hg⟩
  · rcases h with h | rfl
    · exact R.pu b h
    · exact .inr fun q => by obtain ⟨o', e⟩ := R.pl b q; rw [hn] at e; cases e

/- ---- results of two kinds ---- -/
inductive Rv where
  | v (d : D)
  | o (ds : List D)
noncomputable def Rv.slot : Rv → Slot | .v d => .val d | .o ds => .own ds
abbrev Fr1 := St → Option Rv
noncomputable def SR (C : Cx) (t : Sem Value) (m : Fr1) : Prop :=
  ∀ X P U σ s Q, Rel C X P U σ s → ∀ r, m σ = some r →
    (∀ v s', Keeps s s' → (match r with
      | .v d => Rd U s'.heap v d
      | .o ds => ∃ a vs n, v = .ref a ∧ s.heap.get? a = none ∧ s'.heap.get? a = some (lobj vs n) ∧ Rds (fun b => U b ∨ b = a) s'.heap vs.toList ds) → Q v s') → W C.G C.A t Q s
noncomputable def rV (m : Fe) : Fr1 := fun σ => match m σ with | some d => some (.v d) | none => none
noncomputable def rO (m : Fl) : Fr1 := fun σ => match m σ with | some ds => some (.o ds) | none => none
theorem SE.r {C : Cx} {t : Sem Value} {m : Fe} (h : SE C t m) : SR C t (rV m) := by
  intro X P U σ s Q R r hr k
  unfold rV at hr
  split at hr <;> cases hr
  rename_i d hd
  exact h X P U σ s Q R d hd fun v s' K q => k v s' K q
theorem SO.r {C : Cx} {t : Sem Value} {m : Fl} (h : SO C t m) : SR C t (rO m) := by
  intro X P U σ s Q R r hr k
  unfold rO at hr
  split at hr <;> cases hr
  rename_i d hd
  exact h X P U σ s Q R d hd fun a vs n s' K hn hg q => k _ s' K ⟨a, vs, n, rfl, hn, hg, q⟩

/-- a value that waits to be stored -/
noncomputable def Pd (P U : AS) (h : Heap) (v : Value) : Rv → Prop
  | .v d => Rd U h v d
  | .o ds => ∃ a vs n, v = .ref a ∧ U a ∧ ¬ P a ∧ h.get? a = some (lobj vs n) ∧ Rds U h vs.toList ds
inductive Pds (P U : AS) (h : Heap) : List Value → List Rv → Prop
  | nil : Pds P U h [] []
  | cons {v vs r rs} : Pd P U h v r → Pds P U h vs rs → Pds P U h (v :: vs) (r :: rs)
abbrev Frs := St → Option (List Rv)
/-- the lists made do not stand in two places -/
noncomputable def Sep (σ : St) (names : List Str) (ρ : Str → Option Value) (vs : List Value) (rs : List Rv) : Prop :=
  (∀ (i : Nat) a ds, vs[i]? = some (.ref a) → rs[i]? = some (.o ds) → ∀ (j : Nat) y es, names[j]? = some y → σ[j]? = some (.own es) → ρ y ≠ some (.ref a)) ∧
  (∀ (i j : Nat) a ds es, vs[i]? = some (.ref a) → vs[j]? = some (.ref a) → rs[i]? = some (.o ds) → rs[j]? = some (.o es) → i = j)
noncomputable def SRL (C : Cx) (es : List Expr) (m : Frs) : Prop := NS es ∧
  ∀ pos X P U σ s ρ (Q : List Value → Shared → Prop), Rel C X P U σ s → Vars C P U σ s.heap ρ → ∀ rs, m σ = some rs →
    (∀ vs s' U', Keeps s s' → (∀ b, U b → U' b) → (∀ b, U' b → U b ∨ s.heap.get? b = none) → Rel C X P U' σ s' → Vars C P U' σ s'.heap ρ → Pds P U' s'.heap vs rs →
      (∀ (i : Nat) a ds, vs[i]? = some (.ref a) → rs[i]? = some (.o ds) → s.heap.get? a = none) →
      (∀ (i j : Nat) a ds es, vs[i]? = some (.ref a) → vs[j]? = some (.ref a) → rs[i]? = some (.o ds) → rs[j]? = some (.o es) → i = j) → Q vs s') →
    W C.G C.A (spliced (backTo pos (starEach es C.env))) Q s
noncomputable def rNil : Frs := fun _ => some []
noncomputable def rCons (m : Fr1) (ms : Frs) : Frs := fun σ => match m σ with
  | some r => (match ms σ with | some rs => some (r :: rs) | none => none)
  | none => none
theorem SRL_nil {C : Cx} : SRL C [] rNil := by
  refine ⟨fun _ _ => rfl, ?_⟩
  intro pos X P U σ s ρ Q R V rs hd k
  cases hd
  exact spliced_nil (k _ _ U (keeps_refl s) (fun _ q => q) (fun _ q => .inl q) R V .nil (fun i a ds h _ => by simp at h) fun i j a ds es h _ _ _ => by simp at h)
theorem Pd.grow {P U U' : AS} {h h' : Heap} {v : Value} {r : Rv} (p : Pd P U h v r) (hu : ∀ b, U b → U' b) (hn : ∀ b, U' b → U b ∨ h.get? b = none) (k : ∀ b o, h.get? b = some o → h'.get? b = some o) : Pd P U' h' v r := by
  have av : ∀ a o, U' a → h.get? a = some o → U a := fun a o q e => (hn a q).elim id fun z => by rw [z] at e; cases e
  cases r with
  | v d => exact (Rd.sub (Rd.avoid av p) fun _ q => .inr q).kept k
  | o ds =>
    obtain ⟨a, vs, n, h1, h2, h3, h4, h5⟩ := p
    exact ⟨a, vs, n, h1, hu _ h2, h3, k _ _ h4, (Rds.sub (Rds.avoid av h5) fun _ q => .inr q).kept k⟩
theorem SRL_cons {C : Cx} {e : Expr} {es : List Expr} {m : Fr1} {ms : Frs} (h : SR C (eval e C.env) m) (hs : SRL C es ms) (hst : ∀ env, starEach (e :: es) env = (false, eval e env) :: starEach es env := by intro _; rfl) :
    SRL C (e :: es) (rCons m ms) := by
  refine ⟨NS_cons hs.1 hst, ?_⟩
  intro pos X P U σ s ρ Q R V rs hd k
  unfold rCons at hd
  split at hd
  · rename_i r hm
    split at hd
    · rename_i rs' hms
      cases hd
      rw [hst]
      show W _ _ (spliced ((false, eval e C.env) :: backTo pos (starEach es C.env))) Q s
      refine spliced_cons (h X P U σ s _ R r hm fun v s₁ K hr => ?_)
      cases r with
      | v d =>
        refine hs.2 pos X P U σ s₁ ρ _ (R.keeps K) (V.kept (keeps_get K)) rs' hms fun vs s₂ U' K' hu hn R' V' p f1 f2 => ?_
        refine k _ _ U' (keeps_trans K K') hu (fun b q => (hn b q).imp id fun z => ?_) R' V' (.cons (Pd.grow (r := .v d) hr hu hn (keeps_get K')) p) (fun i a ds hi hri => ?_) fun i j a ds es hi hj hri hrj => ?_
        · cases q' : s.heap.get? b with
          | none => rfl
          | some o => rw [keeps_get K _ _ q'] at z; cases z
        · cases i with
          | zero => simp at hri
          | succ i =>
            have z := f1 i a ds (by simpa using hi) (by simpa using hri)
            cases q' : s.heap.get? a with
            | none => rfl
            | some o => rw [keeps_get K _ _ q'] at z; cases z
        · cases i with
          | zero => simp at hri
          | succ i => cases j with
            | zero => simp at hrj
            | succ j => exact congrArg Nat.succ (f2 i j a ds es (by simpa using hi) (by simpa using hj) (by simpa using hri) (by simpa using hrj))
      | o ds =>
        obtain ⟨a, ws, n, rfl, hna, hga, hra⟩ := hr
        obtain ⟨R₁, V₁⟩ := R.enlarge V K hna hga
        have nP : ¬ P a := fun q => by obtain ⟨o', e⟩ := R.pl a q; rw [hna] at e; cases e
        refine hs.2 pos X P _ σ s₁ ρ _ R₁ V₁ rs' hms fun vs s₂ U' K' hu hn R' V' p f1 f2 => ?_
        refine k _ _ U' (keeps_trans K K') (fun b q => hu b (.inl q)) (fun b q => ?_) R' V' (.cons (Pd.grow (r := .o ds) ⟨a, ws, n, rfl, .inr rfl, nP, hga, hra⟩ hu hn (keeps_get K')) p) (fun i a' ds' hi hri => ?_) fun i j a' ds' es' hi hj hri hrj => ?_
        · rcases hn b q with (q' | rfl) | z
          · exact .inl q'
          · exact .inr hna
          · right
            cases q' : s.heap.get? b with
            | none => rfl
            | some o => rw [keeps_get K _ _ q'] at z; cases z
        · cases i with
          | zero => simp at hi; exact hi ▸ hna
          | succ i =>
            have z := f1 i a' ds' (by simpa using hi) (by simpa using hri)
            cases q' : s.heap.get? a' with
            | none => rfl
            | some o => rw [keeps_get K _ _ q'] at z; cases z
        · cases i with
          | zero => cases j with
            | zero => rfl
            | succ j =>
              simp at hi
              have z := f1 j a' es' (by simpa using hj) (by simpa using hrj)
              rw [← hi, hga] at z; cases z
          | succ i => cases j with
            | zero =>
              simp at hj
              have z := f1 i a' ds' (by simpa using hi) (by simpa using hri)
              rw [← hj, hga] at z; cases z
            | succ j => exact congrArg Nat.succ (f2 i j a' ds' es' (by simpa using hi) (by simpa using hj) (by simpa using hri) (by simpa using hrj))
    · cases hd
  · cases hd

/- ---- statements, one behind the other ---- -/
abbrev Fs := St → Option (St × Option D)
noncomputable def sNil : Fs := fun σ => some (σ, none)
noncomputable def sSeq (m1 m2 : Fs) : Fs := fun σ => match m1 σ with
  | some (σ', none) => m2 σ'
  | some (σ', some d) => some (σ', some d)
  | none => none
theorem SS_nil {C : Cx} : SS C (execs [] C.env) sNil := by
  intro X P U σ s Q R σ' r hd k
  cases hd
  exact wpAny_execs_nil (k _ _ ⟨⟨_, _, rfl⟩, fun _ _ _ e => e, rfl, U, R⟩)
theorem Post.trans {C : Cx} {X P : AS} {s s₁ s₂ : Shared} {σ : St} {r : Option D} {fl : Flow} (h1 : ∃ h' tk, s₁ = { s with heap := h', toks := tk }) (h2 : ∀ b o, P b → s.heap.get? b = some o → s₁.heap.get? b = some o) (h : Post C X P s₁ σ r fl s₂) : Post C X P s σ r fl s₂ := by
  obtain ⟨a, b, rfl⟩ := h1
  obtain ⟨⟨c, d, rfl⟩, h4, h5⟩ := h
  exact ⟨⟨c, d, rfl⟩, fun b o p e => h4 b o p (h2 b o p e), h5⟩
theorem SS_cons {C : Cx} {st : Stmt} {rest : List Stmt} {m1 m2 : Fs} (h1 : SS C (exec st C.env) m1) (h2 : SS C (execs rest C.env) m2) : SS C (execs (st :: rest) C.env) (sSeq m1 m2) := by
  intro X P U σ s Q R σ' r hd k
  unfold sSeq at hd
  refine wpAny_execs_cons ?_
  split at hd
  · rename_i σ₁ e
    refine h1 X P U σ s _ R σ₁ none e fun fl s₁ p => ?_
    obtain ⟨p1, p2, rfl, U', R'⟩ := p
    exact h2 X P U' σ₁ s₁ _ R' σ' r hd fun fl s₂ p' => k fl s₂ (.trans p1 p2 p')
  · rename_i σ₁ d e
    cases hd
    refine h1 X P U σ s _ R _ (some d) e fun fl s₁ p => ?_
    have p' := p
    obtain ⟨p1, p2, v, rfl, hr⟩ := p
    exact k _ s₁ p'
  · cases hd
theorem SS_one {C : Cx} {st : Stmt} {m1 : Fs} (h1 : SS C (exec st C.env) m1) : SS C (execs [st] C.env) (sSeq m1 sNil) := SS_cons h1 SS_nil

/-- an owned list is frozen: from here on it is plain data -/
noncomputable def frz (i : Nat) (σ : St) : St := match σ[i]? with
  | some (.own ds) => σ.set i (.val (.list ds))
  | _ => σ
theorem Rel.freeze {C : Cx} {X P U : AS} {σ : St} {s : Shared} (R : Rel C X P U σ s) (i : Nat) : ∃ U', Rel C X P U' (frz i σ) s := by
  unfold frz
  split
  · rename_i ds hi
    obtain ⟨ρ, V⟩ := R.vars
    have hil : i < C.names.length := by
      have := (List.getElem?_eq_some_iff.mp hi).1
      rw [R.len] at this; exact this
    obtain ⟨x, hx⟩ : ∃ x, C.names[i]? = some x := ⟨_, List.getElem?_eq_getElem hil⟩
    obtain ⟨a, vs, n, h1, h2, h4, h5, h6⟩ := V.slot i x _ hx hi
    have hXa : ¬ X a := fun q => h4 (R.xp a q)
    refine ⟨fun b => U b ∧ b ≠ a, R.base, fun b q => ⟨R.xu b q, fun e => hXa (e ▸ q)⟩, R.xp, fun b q => R.ul b q.1, R.pl, fun b q => R.pu b q.1, R.pL, R.pC, fun i x c hx hk hc q => R.xC i x c hx hk hc q.1, by simpa using R.len, ρ, V.fr, fun j y sl hy hs => ?_, fun j k y z ds' es a' hy hz hj hk ey ez => ?_, V.fx⟩
    · rw [List.getElem?_set] at hs
      by_cases e : i = j
      · rw [if_pos e] at hs
        split at hs
        · cases hs
          subst e
          rw [hx] at hy
          cases hy
          exact ⟨_, h1, .list (fun q => q.2 rfl) h5 (h6.sub fun _ q => q.1)⟩
        · cases hs
      · rw [if_neg e] at hs
        have := V.slot j y sl hy hs
        cases sl with
        | un => trivial
        | val d => obtain ⟨v, g1, g2⟩ := this; exact ⟨v, g1, g2.sub fun _ q => q.1⟩
        | own es =>
          obtain ⟨b, ws, n', g1, g2, g4, g5, g6⟩ := this
          refine ⟨b, ws, n', g1, ⟨g2, fun q => e ?_⟩, g4, g5, g6.sub fun _ q => q.1⟩
          exact V.one i j x y ds es a hx hy hi hs h1 (q ▸ g1)
    · rw [List.getElem?_set] at hj hk
      split at hj
      · split at hj <;> cases hj
      · split at hk
        · split at hk <;> cases hk
        · exact V.one j k y z ds' es a' hy hz hj hk ey ez
  · exact ⟨U, R⟩
theorem SS_frz {C : Cx} {t : Sem Flow} {m : Fs} (i : Nat) (h : SS C t m) : SS C t (fun σ => m (frz i σ)) := by
  intro X P U σ s Q R σ' r hd k
  obtain ⟨U', R'⟩ := R.freeze i
  exact h X P U' (frz i σ) s Q R' σ' r hd k

/- ---- return, if ---- -/
noncomputable def sRet (m : Fe) : Fs := fun σ => match m σ with | some d => some (σ, some d) | none => none
theorem SS_ret {C : Cx} {e : Expr} {pos : Pos} {m : Fe} (h : SE C (eval e C.env) m) : SS C (exec (.Return (some e) pos) C.env) (sRet m) := by
  intro X P U σ s Q R σ' r hd k
  unfold sRet at hd
  split at hd <;> cases hd
  rename_i d hm
  refine wpAny_Return_some (h X P U _ s _ R d hm fun v s' K q => k _ s' ?_)
  obtain ⟨h', tk, rfl, kk⟩ := K
  exact ⟨⟨h', tk, rfl⟩, fun b o _ e => kk b o e, v, rfl, q.sub R.xu⟩
noncomputable def sIf (t : Ft) (m1 m2 : Fs) : Fs := fun σ => match t σ with | some true => m1 σ | some false => m2 σ | none => none
theorem keeps_shape {s s' : Shared} (K : Keeps s s') : ∃ h' tk, s' = { s with heap := h', toks := tk } := by
  obtain ⟨h', tk, rfl, _⟩ := K
  exact ⟨h', tk, rfl⟩
theorem SS_if {C : Cx} {t : Expr} {b o : List Stmt} {pos : Pos} {mt : Ft} {m1 m2 : Fs} (ht : ST C (isTrue t C.env (eval t C.env)) mt) (h1 : SS C (execs b C.env) m1) (h2 : SS C (execs o C.env) m2) :
    SS C (exec (.If t b o pos) C.env) (sIf mt m1 m2) := by
  intro X P U σ s Q R σ' r hd k
  unfold sIf at hd
  split at hd
  · rename_i e
    refine wpAny_If (ht X P U σ s _ R true e fun s₁ K => ?_)
    simp only [if_true]
    exact h1 X P U σ s₁ _ (R.keeps K) σ' r hd fun fl s₂ p => k fl s₂ (.trans (keeps_shape K) (fun b o _ e => keeps_get K b o e) p)
  · rename_i e
    refine wpAny_If (ht X P U σ s _ R false e fun s₁ K => ?_)
    simp only [Bool.false_eq_true, if_false]
    exact h2 X P U σ s₁ _ (R.keeps K) σ' r hd fun fl s₂ p => k fl s₂ (.trans (keeps_shape K) (fun b o _ e => keeps_get K b o e) p)
  · cases hd
end Pf

namespace Pf
open PySem PySem.Calls PyProof.Rows

/-- what a store, or some, leave -/
noncomputable def Upd1 (C : Cx) (X P U : AS) (σ' : St) (s s' : Shared) : Prop :=
  (∃ h' tk, s' = { s with heap := h', toks := tk }) ∧ QC P s.heap s'.heap ∧ Rel C X P U σ' s'
theorem QC.trans {P : AS} {h h' h'' : Heap} (a : QC P h h') (b : QC P h' h'') : QC P h h'' :=
  ⟨fun x o p e => b.kp x o p (a.kp x o p e), fun x o p e => b.kq x o p (a.kq x o p e), fun x o e => let ⟨o', e'⟩ := a.lv x o e; b.lv x o' e'⟩
theorem shape_trans {s s' s'' : Shared} (h1 : ∃ h' tk, s' = { s with heap := h', toks := tk }) (h2 : ∃ h' tk, s'' = { s' with heap := h', toks := tk }) : ∃ h' tk, s'' = { s with heap := h', toks := tk } := by
  obtain ⟨a, b, rfl⟩ := h1
  obtain ⟨c, d, rfl⟩ := h2
  exact ⟨c, d, rfl⟩

abbrev Pair := Value × Rv
noncomputable def mayBe (a : Addr) (p : Pair) : Prop := p.1 = .ref a ∧ ∃ ds, p.2 = .o ds
noncomputable def S2 : List Pair → Prop
  | [] => True
  | p :: r => (∀ q ∈ r, ∀ a, mayBe a p → ¬ mayBe a q) ∧ S2 r
noncomputable def putAll (σ : St) : List (Nat × Rv) → St
  | [] => σ
  | (i, r) :: t => putAll (σ.set i r.slot) t
/-- a target that is a name of the frame's own -/
noncomputable def Tg (C : Cx) (t : Value → Sem Unit) (i : Nat) : Prop := i < C.ro ∧ ∃ x, C.names[i]? = some x ∧ ∀ v A s Q, W C.G A (storeName C.env x v) Q s → W C.G A (t v) Q s
inductive Tgs (C : Cx) : List (Value → Sem Unit) → List Nat → Prop
  | nil : Tgs C [] []
  | cons {t ts i is} : Tg C t i → Tgs C ts is → Tgs C (t :: ts) (i :: is)
theorem Pd.quiet {P U : AS} {h h' : Heap} {v : Value} {r : Rv} (p : Pd P U h v r) (k : ∀ b o, Sq o → h.get? b = some o → h'.get? b = some o) : Pd P U h' v r := by
  cases r with
  | v d => exact Rd.quiet k p
  | o ds => obtain ⟨a, vs, n, h1, h2, h3, h4, h5⟩ := p; exact ⟨a, vs, n, h1, h2, h3, k _ _ (Sq.l _ _) h4, h5.quiet k⟩
theorem assign_all {C : Cx} (O : C.Ok) {X P U : AS} : ∀ {ts is} (ps : List Pair) {σ : St} {s : Shared} {ρ : Str → Option Value} {Q : Unit → Shared → Prop}, Tgs C ts is → ps.length = ts.length → Rel C X P U σ s → Vars C P U σ s.heap ρ →
    (∀ p ∈ ps, Pd P U s.heap p.1 p.2) → (∀ p ∈ ps, ∀ a, mayBe a p → ∀ (j : Nat) y es, C.names[j]? = some y → σ[j]? = some (.own es) → ρ y ≠ some (.ref a)) → S2 ps →
    (∀ s', Upd1 C X P U (putAll σ (is.zip (ps.map (·.2)))) s s' → Q () s') → W C.G C.A (assignInOrder ts (ps.map (·.1))) Q s := by
  intro ts is ps
  induction ps generalizing ts is with
  | nil =>
    intro σ s ρ Q T hl R V hp h1 h2 k
    cases T with
    | nil => exact wpAny_pure (k s ⟨⟨_, _, rfl⟩, .of_keeps fun _ _ e => e, R⟩)
    | cons => simp at hl
  | cons p ps ih =>
    intro σ s ρ Q T hl R V hp h1 h2 k
    cases T with
    | nil => simp at hl
    | cons t T =>
      rename_i t' ts i is
      obtain ⟨hi, x, hx, hst⟩ := t
      obtain ⟨v, r⟩ := p
      show W _ _ (do holding (ps.map (·.1)) (t' v); assignInOrder ts (ps.map (·.1))) Q s
      refine wpAny_bind (wpAny_holding (hst v C.A s _ (st_name O R V.fr hi hx fun h' tk q F => ?_)))
      have hpd : Pd P U s.heap v r := hp (v, r) (.head _)
      have hsl : SlotOk P U s.heap (upd ρ x v) x r.slot := by
        cases r with
        | v d => exact ⟨v, upd_eq, hpd⟩
        | o ds => obtain ⟨a, vs, n, e1, e2, e3, e4, e5⟩ := hpd; exact ⟨a, vs, n, upd_eq.trans (congrArg some e1), e2, e3, e4, e5⟩
      obtain ⟨R', V'⟩ := R.stored O V hx hi q F r.slot hsl (tk := tk) fun ds a e1 e2 j y es _ hy hj => by
        cases r with
        | v d => cases e1
        | o ds' => exact h1 (v, .o ds') (.head _) a ⟨e2, ds', rfl⟩ j y es hy hj
      refine ih T (by simpa using hl) R' V' (fun p hm => (hp p (.tail _ hm)).quiet q.kq) (fun p hm a ha j y es hy hj => ?_) h2.2 fun s' u => k s' ?_
      · rw [List.getElem?_set] at hj
        by_cases e : i = j
        · rw [if_pos e] at hj
          split at hj
          · subst e
            rw [hx] at hy
            cases hy
            rw [upd_eq]
            intro e'
            cases r with
            | v d => cases hj
            | o ds' => exact h2.1 p hm a ⟨Option.some.inj e', ds', rfl⟩ ha
          · cases hj
        · rw [if_neg e] at hj
          have hne : y ≠ x := fun q => e (idx_inj O.nodup hx (q ▸ hy))
          rw [upd_ne hne]
          exact h1 p (.tail _ hm) a ha j y es hy hj
      · obtain ⟨u1, u2, u3⟩ := u
        exact ⟨shape_trans ⟨_, _, rfl⟩ u1, q.trans u2, u3⟩

/- ---- targets ---- -/
noncomputable def TG (C : Cx) (e : Expr) (f : St → D → Option St) : Prop :=
  ∀ X P U σ s v d σ' (Q : Unit → Shared → Prop), Rel C X P U σ s → Rd U s.heap v d → f σ d = some σ' → (∀ s', Upd1 C X P U σ' s s' → Q () s') → W C.G C.A (assign e C.env v) Q s
noncomputable def gName (i : Nat) : St → D → Option St := fun σ d => some (σ.set i (.val d))
theorem TG_name {C : Cx} (O : C.Ok) {i : Nat} {x : Str} {pos : Pos} (hx : C.names[i]? = some x) (hi : i < C.ro) : TG C (.Name x pos) (gName i) := by
  intro X P U σ s v d σ' Q R r hf k
  cases hf
  obtain ⟨ρ, V⟩ := R.vars
  refine wpAny_assign_Name (st_name O R V.fr hi hx fun h' tk q F => ?_)
  exact k _ ⟨⟨_, _, rfl⟩, q, (R.stored O V hx hi q F (.val d) ⟨v, upd_eq, r⟩ fun ds a e => by cases e).1⟩
theorem Rds.pds {P U : AS} {h : Heap} : ∀ {vs ds}, Rds U h vs ds → ∀ p ∈ vs.zip (ds.map Rv.v), Pd P U h p.1 p.2
  | _, _, .nil, p, hp => by simp at hp
  | _, _, .cons h1 h2, p, hp => by
    rw [List.map_cons, List.zip_cons_cons] at hp
    rcases List.mem_cons.mp hp with rfl | hp
    · exact h1
    · exact h2.pds p hp
theorem no_own {vs : List Value} {ds : List D} {p : Pair} (hp : p ∈ vs.zip (ds.map Rv.v)) {a : Addr} (h : mayBe a p) : False := by
  have := (List.of_mem_zip hp).2
  obtain ⟨d, _, e⟩ := List.mem_map.mp this
  obtain ⟨_, es, e'⟩ := h
  rw [e'] at e
  cases e
theorem S2_v : ∀ (vs : List Value) (ds : List D), S2 (vs.zip (ds.map Rv.v))
  | [], _ => by simp [S2]
  | _ :: _, [] => by simp [S2]
  | v :: vs, d :: ds => by
    rw [List.map_cons, List.zip_cons_cons]
    exact ⟨fun q hq a _ h => no_own hq h, S2_v vs ds⟩
theorem map_fst_zip {α β : Type} : ∀ (l : List α) (m : List β), l.length = m.length → (l.zip m).map (·.1) = l
  | [], _, _ => by simp
  | _ :: _, [], h => by simp at h
  | a :: l, b :: m, h => by simp [map_fst_zip l m (by simpa using h)]
theorem map_snd_zip {α β : Type} : ∀ (l : List α) (m : List β), l.length = m.length → (l.zip m).map (·.2) = m
  | [], [], _ => rfl
  | [], _ :: _, h => by simp at h
  | _ :: _, [], h => by simp at h
  | a :: l, b :: m, h => by simp [map_snd_zip l m (by simpa using h)]
theorem Tgs.length {C : Cx} : ∀ {ts is}, Tgs C ts is → ts.length = is.length
  | _, _, .nil => rfl
  | _, _, .cons _ t => by simp [t.length]
/-- names behind the items of a tuple that is read -/
theorem assign_read {C : Cx} (O : C.Ok) {X P U : AS} {σ : St} {s : Shared} {ts : List (Value → Sem Unit)} {is : List Nat} {vs : List Value} {ds : List D} {Q : Unit → Shared → Prop} (T : Tgs C ts is) (R : Rel C X P U σ s) (r : Rds U s.heap vs ds)
    (hl : ds.length = is.length) (k : ∀ s', Upd1 C X P U (putAll σ (is.zip (ds.map Rv.v))) s s' → Q () s') : W C.G C.A (assignInOrder ts vs) Q s := by
  obtain ⟨ρ, V⟩ := R.vars
  have l1 := r.length
  have l2 := T.length
  have e1 : (vs.zip (ds.map Rv.v)).map (·.1) = vs := map_fst_zip _ _ (by simpa using l1)
  have e2 : (vs.zip (ds.map Rv.v)).map (·.2) = ds.map Rv.v := map_snd_zip _ _ (by simpa using l1)
  have := assign_all O (vs.zip (ds.map Rv.v)) (Q := Q) T (by simp; omega) R V r.pds (fun p hp a h => (no_own hp h).elim) (S2_v vs ds) (fun s' u => k s' (by rw [e2] at u; exact u))
  rwa [e1] at this
noncomputable def eltNames : List Expr → Option (List Str)
  | [] => some []
  | .Name x _ :: r => (match eltNames r with | some xs => some (x :: xs) | none => none)
  | _ => none
/-- the targets of a tuple of names -/
noncomputable def Elts (C : Cx) (es : List Expr) (is : List Nat) : Prop := Tgs C ((assignEach es C.env).map (·.2)) is ∧ (assignEach es C.env).findIdx? (·.1) = none ∧ (assignEach es C.env).length = is.length
theorem Elts_nil {C : Cx} : Elts C [] [] := ⟨.nil, rfl, rfl⟩
theorem Elts_cons {C : Cx} {i : Nat} {x : Str} {pos : Pos} {es : List Expr} {is : List Nat} (hx : C.names[i]? = some x) (hi : i < C.ro) (h : Elts C es is) : Elts C (.Name x pos :: es) (i :: is) := by
  obtain ⟨h1, h2, h3⟩ := h
  refine ⟨.cons ⟨hi, x, hx, fun v A s Q q => wpAny_assign_Name q⟩ h1, ?_, by simp [assignEach, h3]⟩
  show List.findIdx? _ ((false, _) :: assignEach es C.env) = none
  rw [List.findIdx?_cons]
  simp [h2]
noncomputable def gTup (is : List Nat) : St → D → Option St := fun σ d => match d with
  | .tuple ds => (match Nat.beq ds.length is.length with | true => some (putAll σ (is.zip (ds.map Rv.v))) | false => none)
  | _ => none
theorem Upd1.after {C : Cx} {X P U : AS} {σ' : St} {s s₁ s' : Shared} (K : Keeps s s₁) (u : Upd1 C X P U σ' s₁ s') : Upd1 C X P U σ' s s' :=
  ⟨shape_trans (keeps_shape K) u.1, (QC.of_keeps (keeps_get K)).trans u.2.1, u.2.2⟩
theorem ext_keeps {s : Shared} {h' : Heap} (he : Heap.ExtBut s.heap.objs.size s.heap h') : Keeps s { s with heap := h' } :=
  ⟨h', s.toks, rfl, fun b o e => he b o (Nat.ne_of_lt (Heap.lt_size e)) e⟩
theorem TG_tup {C : Cx} (O : C.Ok) {es : List Expr} {is : List Nat} {n : Nat} {pos : Pos} (h : Elts C es is) : TG C (.Tuple es n pos) (gTup is) := by
  intro X P U σ s v d σ' Q R r hf k
  unfold gTup at hf
  split at hf
  · rename_i ds
    split at hf <;> cases hf
    rename_i hb
    have hb := Nat.eq_of_beq_eq_true hb
    cases r with
    | tuple hn hg hr =>
      rename_i a vs c
      have l1 := hr.length
      simp only [Array.length_toList] at l1
      refine wpAny_assign_Tuple O.hd ⟨_, hg, rfl, c, rfl⟩ (by rw [h.2.2]; omega) h.2.1 fun h' he => ?_
      have K := ext_keeps he
      exact assign_read O h.1 (R.keeps K) (hr.kept (keeps_get K)) hb fun s' u => k s' (u.after K)
  · cases hf

/- ---- assignments ---- -/
noncomputable def sAsg (m : Fe) (f : St → D → Option St) : Fs := fun σ => match m σ with
  | some d => (match f σ d with | some σ' => some (σ', none) | none => none)
  | none => none
theorem Upd1.post {C : Cx} {X P U : AS} {σ' : St} {s s' : Shared} (u : Upd1 C X P U σ' s s') : Post C X P s σ' none .next s' :=
  ⟨u.1, fun b o p e => u.2.1.kp b o p e, rfl, U, u.2.2⟩
theorem SS_asg {C : Cx} (O : C.Ok) {e : Expr} {i : Nat} {x : Str} {p pos : Pos} {m : Fe} (h : SE C (eval e C.env) m) (hx : C.names[i]? = some x) (hi : i < C.ro) (hs : swapsWith e (some (.Name x p)) pos.line C.env = pure false := by rfl) :
    SS C (exec (.Assign [.Name x p] e pos) C.env) (sAsg m (gName i)) := by
  intro X P U σ s Q R σ' r hd k
  unfold sAsg at hd
  split at hd
  · rename_i d hm
    simp only [gName] at hd
    cases hd
    refine wpAny_Assign_Name (h X P U σ s _ R d hm fun v s₁ K q => ?_) hs
    obtain ⟨ρ, V⟩ := (R.keeps K).vars
    refine st_name O (R.keeps K) V.fr hi hx fun h' tk qc F => ?_
    refine k _ _ (Upd1.post (Upd1.after K ⟨⟨_, _, rfl⟩, qc, ((R.keeps K).stored O V hx hi qc F (.val d) ⟨v, upd_eq, q⟩ fun ds a e => by cases e).1⟩))
  · cases hd
noncomputable def sAsgO (m : Fl) (i : Nat) : Fs := fun σ => match m σ with
  | some ds => some (σ.set i (.own ds), none)
  | none => none
theorem SS_asgO {C : Cx} (O : C.Ok) {e : Expr} {i : Nat} {x : Str} {p pos : Pos} {m : Fl} (h : SO C (eval e C.env) m) (hx : C.names[i]? = some x) (hi : i < C.ro) (hs : swapsWith e (some (.Name x p)) pos.line C.env = pure false := by rfl) :
    SS C (exec (.Assign [.Name x p] e pos) C.env) (sAsgO m i) := by
  intro X P U σ s Q R σ' r hd k
  unfold sAsgO at hd
  split at hd <;> cases hd
  rename_i ds hm
  refine wpAny_Assign_Name (h X P U σ s _ R ds hm fun a vs n s₁ K hn hg q => ?_) hs
  obtain ⟨ρ, V⟩ := R.vars
  obtain ⟨R₁, V₁⟩ := R.enlarge V K hn hg
  have nP : ¬ P a := fun q => by obtain ⟨o', e⟩ := R.pl a q; rw [hn] at e; cases e
  refine st_name O R₁ V₁.fr hi hx fun h' tk qc F => ?_
  refine k _ _ (Upd1.post (Upd1.after K ⟨⟨_, _, rfl⟩, qc, (R₁.stored O V₁ hx hi qc F (.own ds) ⟨a, vs, n, upd_eq, .inr rfl, nP, hg, q⟩ fun ds' a' e1 e2 j y es hj hy hs => ?_).1⟩))
  cases e2
  intro e3
  obtain ⟨b, ws, m', g1, g2, g3, g4, g5⟩ := V.slot j y _ hy hs
  rw [e3] at g1
  cases g1
  rw [hn] at g4
  cases g4
/-- a, b = value: the value read as a tuple -/
theorem SS_asgT {C : Cx} (O : C.Ok) {e : Expr} {es : List Expr} {is : List Nat} {n : Nat} {p pos : Pos} {m : Fe} (h : SE C (eval e C.env) m) (ht : Elts C es is)
    (hs : swapsWithSole [.Tuple es n p] e pos.line C.env = pure false := by rfl) (hw : swappedStores [.Tuple es n p] e C.env = pure none := by rfl) :
    SS C (exec (.Assign [.Tuple es n p] e pos) C.env) (sAsg m (gTup is)) := by
  intro X P U σ s Q R σ' r hd k
  unfold sAsg at hd
  split at hd
  · rename_i d hm
    split at hd <;> cases hd
    rename_i hf
    refine Assign_Tuple (h X P U σ s _ R d hm fun v s₁ K q => ?_) hs hw
    exact TG_tup O ht X P U σ s₁ v d _ _ (R.keeps K) q hf fun s' u => k _ _ (u.after K).post
  · cases hd
/-- a, b = e1, e2 -/
noncomputable def sTup (sw : Bool) (m : Frs) (is : List Nat) : Fs := fun σ => match m σ with
  | some rs => (match Nat.beq rs.length is.length with
    | true => some (putAll σ (match sw with | true => (is.reverse.zip rs.reverse) | false => is.zip rs), none)
    | false => none)
  | none => none
theorem Pds.all {P U : AS} {h : Heap} : ∀ {vs rs}, Pds P U h vs rs → ∀ p ∈ vs.zip rs, Pd P U h p.1 p.2
  | _, _, .nil, p, hp => by simp at hp
  | _, _, .cons h1 h2, p, hp => by
    rw [List.zip_cons_cons] at hp
    rcases List.mem_cons.mp hp with rfl | hp
    · exact h1
    · exact h2.all p hp
theorem Pds.length {P U : AS} {h : Heap} : ∀ {vs rs}, Pds P U h vs rs → vs.length = rs.length
  | _, _, .nil => rfl
  | _, _, .cons _ h2 => by simp [h2.length]
theorem S2_of : ∀ (ps : List Pair), (∀ (i j : Nat) p q a, ps[i]? = some p → ps[j]? = some q → mayBe a p → mayBe a q → i = j) → S2 ps
  | [], _ => trivial
  | p :: r, h => by
    refine ⟨fun q hq a h1 h2 => ?_, S2_of r fun i j p' q' a h1 h2 h3 h4 => Nat.succ.inj (h (i + 1) (j + 1) p' q' a (by simpa using h1) (by simpa using h2) h3 h4)⟩
    obtain ⟨i, hi⟩ := List.getElem?_of_mem hq
    have := h 0 (i + 1) p q a rfl (by simpa using hi) h1 h2
    cases this
theorem S2_idx {ps : List Pair} (h : S2 ps) : ∀ (i j : Nat) p q a, ps[i]? = some p → ps[j]? = some q → mayBe a p → mayBe a q → i = j := by
  induction ps with
  | nil => intro i j p q a h1; simp at h1
  | cons x r ih =>
    intro i j p q a h1 h2 h3 h4
    cases i with
    | zero => cases j with
      | zero => rfl
      | succ j => simp at h1 h2; exact absurd h4 (h.1 q (List.mem_of_getElem? h2) a (h1 ▸ h3))
    | succ i => cases j with
      | zero => simp at h1 h2; exact absurd h3 (h.1 p (List.mem_of_getElem? h1) a (h2 ▸ h4))
      | succ j => exact congrArg Nat.succ (ih h.2 i j p q a (by simpa using h1) (by simpa using h2) h3 h4)
theorem S2_reverse {ps : List Pair} (h : S2 ps) : S2 ps.reverse := by
  refine S2_of _ fun i j p q a h1 h2 h3 h4 => ?_
  have hi := (List.getElem?_eq_some_iff.mp h1).1
  have hj := (List.getElem?_eq_some_iff.mp h2).1
  simp only [List.length_reverse] at hi hj
  rw [List.getElem?_reverse hi] at h1
  rw [List.getElem?_reverse hj] at h2
  have := S2_idx h _ _ p q a h1 h2 h3 h4
  omega
theorem Tgs.reverse {C : Cx} : ∀ {ts is}, Tgs C ts is → Tgs C ts.reverse is.reverse := by
  intro ts is h
  have app : ∀ {ts is us js}, Tgs C ts is → Tgs C us js → Tgs C (ts ++ us) (is ++ js) := by
    intro ts is us js h1 h2
    induction h1 with
    | nil => exact h2
    | cons a _ ih => exact .cons a ih
  induction h with
  | nil => exact .nil
  | cons a _ ih => simp; exact app ih (.cons a .nil)
theorem zip_facts {P U : AS} {h : Heap} {vs : List Value} {rs : List Rv} (p : Pds P U h vs rs) : (vs.zip rs).map (·.1) = vs ∧ (vs.zip rs).map (·.2) = rs :=
  ⟨map_fst_zip _ _ p.length, map_snd_zip _ _ p.length⟩
theorem zip_at {vs : List Value} {rs : List Rv} {i : Nat} {p : Pair} (h : (vs.zip rs)[i]? = some p) : vs[i]? = some p.1 ∧ rs[i]? = some p.2 := by
  rw [List.getElem?_zip_eq_some] at h
  exact h
/-- the values of the display, unpacked and stored -/
theorem tup_core {C : Cx} (O : C.Ok) {es : List Expr} {n : Nat} {pos : Pos} {m : Frs} (h : SRL C es m) {X P U : AS} {σ : St} {s : Shared} (R : Rel C X P U σ s) {rs : List Rv} (hm : m σ = some rs) (h64 : rs.length ≤ 64)
    {Q : Value → Shared → Prop}
    (k : ∀ (t : Addr) (vs : List Value) (s' : Shared) (U' : AS) (ρ : Str → Option Value), Keeps s s' → s'.heap.IsTuple t vs.toArray → vs.length = rs.length → Rel C X P U' σ s' → Vars C P U' σ s'.heap ρ → (∀ p ∈ vs.zip rs, Pd P U' s'.heap p.1 p.2) →
      (∀ p ∈ vs.zip rs, ∀ a, mayBe a p → ∀ (j : Nat) y es, C.names[j]? = some y → σ[j]? = some (.own es) → ρ y ≠ some (.ref a)) → S2 (vs.zip rs) → (vs.zip rs).map (·.1) = vs → (vs.zip rs).map (·.2) = rs → Q (.ref t) s') :
    W C.G C.A (eval (.Tuple es n pos) C.env) Q s := by
  obtain ⟨ρ, V⟩ := R.vars
  refine Tuple_ (h.2 pos X P U σ s ρ _ R V rs hm fun vs s₁ U' K hu hn R' V' p f1 f2 => ?_)
  have hl := p.length
  obtain ⟨z1, z2⟩ := zip_facts p
  refine wpAny_newObj_type ?_ ?_
  · have K' := keeps_push s₁ { cls := .type "tuple", data := .seq vs.toArray }
    refine k _ vs _ U' ρ (keeps_trans K K') ⟨_, Heap.get?_push_size _ rfl, rfl, 0, rfl⟩ hl (R'.keeps K') (V'.kept (keeps_get K')) (fun q hq => (p.all q hq).quiet fun b o _ e => keeps_get K' b o e) (fun q hq a ha j y es hy hj e3 => ?_)
      (S2_of _ fun i j p q a h1 h2 h3 h4 => ?_) z1 z2
    · obtain ⟨b, ws, m', g1, g2, g3, g4, g5⟩ := V.slot j y _ hy hj
      rw [e3] at g1
      cases g1
      obtain ⟨i, hi⟩ := List.getElem?_of_mem hq
      obtain ⟨q1, q2⟩ := zip_at hi
      obtain ⟨e1, ds, e2⟩ := ha
      rw [e1] at q1
      rw [e2] at q2
      rw [f1 i a ds q1 q2] at g4
      cases g4
    · obtain ⟨q1, q2⟩ := zip_at h1
      obtain ⟨q3, q4⟩ := zip_at h2
      obtain ⟨e1, ds, e2⟩ := h3
      obtain ⟨e3, es, e4⟩ := h4
      rw [e1] at q1; rw [e2] at q2; rw [e3] at q3; rw [e4] at q4
      exact f2 i j a ds es q1 q3 q2 q4
  · show vs.toArray.size ≤ sizeLine
    rw [List.size_toArray, sl]; omega
theorem SS_tup {C : Cx} (O : C.Ok) {ts es : List Expr} {is : List Nat} {n n' : Nat} {p p' pos : Pos} {m : Frs} (h : SRL C es m) (ht : Elts C ts is) (h64 : is.length ≤ 64)
    (hw : swappedStores [.Tuple ts n p] (.Tuple es n' p') C.env = pure none) (hs : swapsWithSole [.Tuple ts n p] (.Tuple es n' p') pos.line C.env = pure false := by rfl) :
    SS C (exec (.Assign [.Tuple ts n p] (.Tuple es n' p') pos) C.env) (sTup false m is) := by
  intro X P U σ s Q R σ' r hd k
  unfold sTup at hd
  split at hd
  · rename_i rs hm
    split at hd <;> cases hd
    rename_i hb
    have hb := Nat.eq_of_beq_eq_true hb
    refine Assign_Tuple (tup_core O h R hm (by omega) fun t vs s₁ U' ρ K hT hl R' V' hp h1 h2 z1 z2 => ?_) hs hw
    refine wpAny_assign_Tuple O.hd hT (by rw [ht.2.2]; simp; omega) ht.2.1 fun h' he => ?_
    have K' := ext_keeps he
    have := assign_all O (vs.zip rs) (Q := fun _ => Q .next) ht.1 (by simp [hl, hb, ht.1.length]) (R'.keeps K') (V'.kept (keeps_get K')) (fun q hq => (hp q hq).quiet fun b o _ e => keeps_get K' b o e) h1 h2
      fun s' u => k _ _ (Upd1.post (Upd1.after (keeps_trans K K') (by rw [z2] at u; exact u)))
    rw [z1] at this
    simpa using this
  · cases hd
theorem bindNames {C : Cx} {xs : List Str} {is : List Nat} (h : ∀ (i : Nat) x, xs[i]? = some x → ∃ j, is[i]? = some j ∧ j < C.ro ∧ C.names[j]? = some x) (hl : xs.length = is.length) : Tgs C (xs.map fun n => bindName C.env n) is := by
  induction xs generalizing is with
  | nil => cases is with
    | nil => exact .nil
    | cons => simp at hl
  | cons x xs ih => cases is with
    | nil => simp at hl
    | cons j is =>
      obtain ⟨j', e1, e2, e3⟩ := h 0 x rfl
      simp at e1
      subst e1
      exact .cons ⟨e2, x, e3, fun v A s Q q => wpAny_bindName q⟩ (ih (fun i y hy => h (i + 1) y (by simpa using hy)) (by simpa using hl))
theorem SS_tupS {C : Cx} (O : C.Ok) {ts es : List Expr} {xs : List Str} {is : List Nat} {n n' : Nat} {p p' pos : Pos} {m : Frs} (h : SRL C es m) (ht : Tgs C (xs.map fun n => bindName C.env n) is) (h64 : is.length ≤ 64)
    (hw : swappedStores [.Tuple ts n p] (.Tuple es n' p') C.env = pure (some xs)) (hs : swapsWithSole [.Tuple ts n p] (.Tuple es n' p') pos.line C.env = pure false := by rfl) :
    SS C (exec (.Assign [.Tuple ts n p] (.Tuple es n' p') pos) C.env) (sTup true m is) := by
  intro X P U σ s Q R σ' r hd k
  unfold sTup at hd
  split at hd
  · rename_i rs hm
    split at hd <;> cases hd
    rename_i hb
    have hb := Nat.eq_of_beq_eq_true hb
    have hxl : xs.length = is.length := by have := ht.length; simpa using this
    refine Assign_Tuple_swapped (tup_core O h R hm (by omega) fun t vs s₁ U' ρ K hT hl R' V' hp h1 h2 z1 z2 => ?_) hs hw
    have hsz : xs.length = vs.toArray.size := by simp; omega
    rw [hsz]
    refine wpAny_unpackItems_tuple O.hd hT fun h' he => ?_
    have K' := ext_keeps he
    have hrev : (xs.reverse.map fun n => bindName C.env n) = (xs.map fun n => bindName C.env n).reverse := by rw [List.map_reverse]
    rw [hrev]
    have := assign_all O (vs.zip rs).reverse (Q := fun _ => Q .next) ht.reverse (by simp [hl, hb, hxl]) (R'.keeps K') (V'.kept (keeps_get K')) (fun q hq => (hp q (List.mem_reverse.mp hq)).quiet fun b o _ e => keeps_get K' b o e)
      (fun q hq => h1 q (List.mem_reverse.mp hq)) (S2_reverse h2) fun s' u => k _ _ (Upd1.post (Upd1.after (keeps_trans K K') (by rw [List.map_reverse, z2] at u; exact u)))
    rw [List.map_reverse, z1] at this
    simpa using this
  · cases hd
end Pf

namespace Pf
open PySem PySem.Calls PyProof.Rows

theorem upd_list {h : Heap} {a : Addr} {vs : Array Value} {n : Nat} (f : Array Value → Array Value) (hg : h.get? a = some (lobj vs n)) : ∃ n', (h.update a (Obj.mapSeq f)).get? a = some (lobj (f vs) n') :=
  ⟨_, Heap.get?_update_self _ hg rfl⟩
/-- an owned list is changed -/
theorem Rel.mutate' {C : Cx} (O : C.Ok) {X P U : AS} {σ : St} {s s' : Shared} (R : Rel C X P U σ s) {ρ : Str → Option Value} (V : Vars C P U σ s.heap ρ) {i : Nat} {x : Str} {ds es : List D} (hx : C.names[i]? = some x) (hi : σ[i]? = some (.own ds))
    {a : Addr} {vs ws : Array Value} {n n' : Nat} (hρ : ρ x = some (.ref a)) (hg : s.heap.get? a = some (lobj vs n)) (hg' : s'.heap.get? a = some (lobj ws n')) (hk : ∀ b o, b ≠ a → s.heap.get? b = some o → s'.heap.get? b = some o)
    (hr : Rds U s'.heap ws.toList es) : Rel C X P U (σ.set i (.own es)) s' := by
  obtain ⟨b, us, m, h1, h2, h4, h5, h6⟩ := V.slot i x _ hx hi
  rw [hρ] at h1
  cases h1
  have lv : ∀ b o, s.heap.get? b = some o → ∃ o', s'.heap.get? b = some o' := fun b o e => by
    by_cases q : b = a
    · exact ⟨_, q ▸ hg'⟩
    · exact ⟨o, hk b o q e⟩
  have hil : i < σ.length := (List.getElem?_eq_some_iff.mp hi).1
  refine ⟨fun b o e => let ⟨q1, q2⟩ := R.base b o e; ⟨hk b o (fun q => h4 (q ▸ q2.1)) q1, q2⟩, R.xu, R.xp, fun b q => let ⟨o, e⟩ := R.ul b q; lv b o e, fun b q => let ⟨o, e⟩ := R.pl b q; lv b o e, R.pu, R.pL, R.pC, R.xC, by simpa using R.len, ρ, V.fr.upd hg hk, fun j y sl hy hs => ?_, fun j k y z d1 d2 c hy hz hj hkk ey ez => ?_, V.fx⟩
  · rw [List.getElem?_set] at hs
    by_cases e : i = j
    · rw [if_pos e, if_pos (e ▸ hil)] at hs
      cases hs
      subst e
      rw [hx] at hy
      cases hy
      exact ⟨a, ws, n', hρ, h2, h4, hg', hr⟩
    · rw [if_neg e] at hs
      have := V.slot j y sl hy hs
      cases sl with
      | un => trivial
      | val d => obtain ⟨v, g1, g2⟩ := this; exact ⟨v, g1, g2.mono (fun _ q => q) fun b o hb e => hk b o (fun q => hb (q ▸ h2)) e⟩
      | own fs =>
        obtain ⟨c, us', m', g1, g2, g4, g5, g6⟩ := this
        refine ⟨c, us', m', g1, g2, g4, hk c _ (fun q => e ?_) g5, g6.mono (fun _ q => q) fun b o hb e => hk b o (fun q => hb (q ▸ h2)) e⟩
        exact V.one i j x y ds fs a hx hy hi hs hρ (q ▸ g1)
  · have key : ∀ {j : Nat} {d : List D}, (σ.set i (.own es))[j]? = some (.own d) → ∃ d', σ[j]? = some (.own d') := fun {j d} hj => by
      rw [List.getElem?_set] at hj
      by_cases e : i = j
      · exact ⟨ds, e ▸ hi⟩
      · rw [if_neg e] at hj; exact ⟨d, hj⟩
    obtain ⟨_, hj'⟩ := key hj
    obtain ⟨_, hk'⟩ := key hkk
    exact V.one j k y z _ _ c hy hz hj' hk' ey ez
theorem Rel.mutate {C : Cx} (O : C.Ok) {X P U : AS} {σ : St} {s s' : Shared} (R : Rel C X P U σ s) {ρ : Str → Option Value} (V : Vars C P U σ s.heap ρ) {i : Nat} {x : Str} {ds es : List D} (hx : C.names[i]? = some x) (hi : σ[i]? = some (.own ds))
    {a : Addr} {vs ws : Array Value} {n n' : Nat} (hρ : ρ x = some (.ref a)) (hg : s.heap.get? a = some (lobj vs n)) (hg' : s'.heap.get? a = some (lobj ws n')) (hk : ∀ b o, b ≠ a → s.heap.get? b = some o → s'.heap.get? b = some o)
    (hr : Rds U s.heap ws.toList es) : Rel C X P U (σ.set i (.own es)) s' := by
  obtain ⟨b, us, m, h1, h2, h4, h5, h6⟩ := V.slot i x _ hx hi
  rw [hρ] at h1
  cases h1
  exact R.mutate' O V hx hi hρ hg hg' hk (hr.mono (fun _ q => q) fun b o hb e => hk b o (fun q => hb (q ▸ h2)) e)
theorem mut_post {C : Cx} {X P U : AS} {σ' : St} {s₀ s s' : Shared} {a : Addr} (K : Keeps s₀ s) (hs : ∃ h' tk, s' = { s with heap := h', toks := tk }) (nP : ¬ P a) (hk : ∀ b o, b ≠ a → s.heap.get? b = some o → s'.heap.get? b = some o) (R : Rel C X P U σ' s') :
    Post C X P s₀ σ' none .next s' :=
  ⟨shape_trans (keeps_shape K) hs, fun b o p e => hk b o (fun q => nP (q ▸ p)) (keeps_get K b o e), rfl, U, R⟩

/-- an owned list, at its variable -/
theorem own_at {C : Cx} {X P U : AS} {σ : St} {s : Shared} {ρ : Str → Option Value} (V : Vars C P U σ s.heap ρ) {i : Nat} {x : Str} {ds : List D} (hx : C.names[i]? = some x) (hi : σ[i]? = some (.own ds)) :
    ∃ a vs n, ρ x = some (.ref a) ∧ U a ∧ ¬ P a ∧ s.heap.get? a = some (lobj vs n) ∧ Rds U s.heap vs.toList ds := V.slot i x _ hx hi

/-- x.append(e) -/
noncomputable def sApp (i : Nat) (m : Fe) : Fs := fun σ => match σ[i]? with
  | some (.own ds) => (match m σ with
    | some d => (match short ds with | true => some (σ.set i (.own (ds ++ [d])), none) | false => none)
    | none => none)
  | _ => none
theorem few1 {e : Expr} {env : Env} {pos : Pos} (hst : starEach [e] env = [(false, eval e env)]) : ((backTo pos (starEach [e] env)).all (fun x => !x.1) && (backToKw pos (keywordEach [] env)).all (fun x => x.1.isSome) && decide (([e] : List Expr).length + ([] : List Keyword).length + (if ([] : List Keyword).isEmpty then 0 else 1) < 30)) = true := by
  rw [hst]; rfl
theorem SS_append {C : Cx} (O : C.Ok) {i : Nat} {x : Str} {e : Expr} {p1 ap cp pos : Pos} {m : Fe} (hx : C.names[i]? = some x) (h : SE C (eval e C.env) m)
    (hint : interactive C.env = false) (hst : ∀ env, starEach [e] env = [(false, eval e env)] := by intro _; rfl) (hline : (ap.endLine == cp.line) = true := by rfl)
    (hbase : attributeBase (.Name x p1) "append" C.env (eval (.Name x p1) C.env) = eval (.Name x p1) C.env := by rfl) (hsw : swapsWith (.Call (.Attribute (.Name x p1) "append" ap) [e] [] cp) none pos.line C.env = pure false := by rfl) :
    SS C (exec (.Expr (.Call (.Attribute (.Name x p1) "append" ap) [e] [] cp) pos) C.env) (sApp i m) := by
  intro X P U σ s Q R σ' r hd k
  unfold sApp at hd
  split at hd
  · rename_i ds hi
    split at hd
    · rename_i d hm
      split at hd <;> cases hd
      rename_i hsh
      obtain ⟨ρ, V⟩ := R.vars
      obtain ⟨a, vs, n, hρ, hU, hP, hg, hr⟩ := own_at (X := X) V hx hi
      refine wpAny_Expr ?_ hint hsw
      refine wpAny_Call_method (T := "list") (id := "list.append") hbase (few1 (hst _)) hline F.plainAttrs_list F.slot_list_append F.type_list_append ((ld_name O V.fr hx hρ ?_).2)
      refine ⟨⟨_, hg, rfl⟩, fun b hb => by cases hb; exact ⟨_, hg, rfl⟩, ?_⟩
      rw [show backTo cp (starEach [e] C.env) = [(false, eval e C.env)] by rw [hst]; rfl]
      refine PySem.P.append_list (h X P U σ s _ R d hm fun v s₁ K q => ?_)
      have l1 := hr.length
      have l3 := short_le hsh
      simp only [Array.length_toList] at l1
      have hg1 := keeps_get K _ _ hg
      refine ⟨vs, n, by rw [sl]; omega, hg1, ?_⟩
      obtain ⟨n', hn'⟩ := upd_list (·.push v) hg1
      have hk : ∀ b o, b ≠ a → s₁.heap.get? b = some o → (s₁.heap.update a (Obj.mapSeq (·.push v))).get? b = some o := fun b o hb e => (Heap.get?_update_other _ _ (Ne.symm hb)).trans e
      refine k _ _ (mut_post K ⟨_, _, rfl⟩ hP hk ((R.keeps K).mutate O (V.kept (keeps_get K)) hx hi hρ hg1 hn' hk ?_))
      simpa using (hr.kept (keeps_get K)).append (.cons q .nil)
    · cases hd
  · cases hd

/-- x.extend(e), e a list -/
noncomputable def sExt (i : Nat) (m : Fe) : Fs := fun σ => match σ[i]? with
  | some (.own ds) => (match m σ with
    | some (.list es) => (match short (ds ++ es) with | true => some (σ.set i (.own (ds ++ es)), none) | false => none)
    | _ => none)
  | _ => none
theorem SS_extend {C : Cx} (O : C.Ok) {i : Nat} {x : Str} {e : Expr} {p1 ap cp pos : Pos} {m : Fe} (hx : C.names[i]? = some x) (h : SE C (eval e C.env) m)
    (hint : interactive C.env = false) (hst : ∀ env, starEach [e] env = [(false, eval e env)] := by intro _; rfl) (hline : (ap.endLine == cp.line) = true := by rfl)
    (hbase : attributeBase (.Name x p1) "extend" C.env (eval (.Name x p1) C.env) = eval (.Name x p1) C.env := by rfl) (hsw : swapsWith (.Call (.Attribute (.Name x p1) "extend" ap) [e] [] cp) none pos.line C.env = pure false := by rfl) :
    SS C (exec (.Expr (.Call (.Attribute (.Name x p1) "extend" ap) [e] [] cp) pos) C.env) (sExt i m) := by
  intro X P U σ s Q R σ' r hd k
  unfold sExt at hd
  split at hd
  · rename_i ds hi
    split at hd
    · rename_i es hm
      split at hd <;> cases hd
      rename_i hsh
      obtain ⟨ρ, V⟩ := R.vars
      obtain ⟨a, vs, n, hρ, hU, hP, hg, hr⟩ := own_at (X := X) V hx hi
      refine wpAny_Expr ?_ hint hsw
      refine wpAny_Call_method (T := "list") (id := "list.extend") hbase (few1 (hst _)) hline F.plainAttrs_list F.slot_list_extend F.type_list_extend ((ld_name O V.fr hx hρ ?_).2)
      refine ⟨⟨_, hg, rfl⟩, fun b hb => by cases hb; exact ⟨_, hg, rfl⟩, ?_⟩
      rw [show backTo cp (starEach [e] C.env) = [(false, eval e C.env)] by rw [hst]; rfl]
      refine PySem.P.extend_list (h X P U σ s _ R _ hm fun v s₁ K q => ?_)
      cases q with
      | list hn2 hg2 hr2 =>
        rename_i b ws c
        have l1 := hr.length
        have l2 := hr2.length
        have l3 := short_le hsh
        simp only [Array.length_toList, List.length_append] at l1 l2 l3
        have hg1 := keeps_get K _ _ hg
        refine ⟨b, vs, ws, n, c, by rw [sl]; omega, by rw [sl]; omega, ?_, rfl, hg1, hg2, ?_⟩
        · simp [Builtin.List.listTooLong, sizeLine]; omega
        obtain ⟨n', hn'⟩ := upd_list (· ++ ws) hg1
        have hk : ∀ b o, b ≠ a → s₁.heap.get? b = some o → (s₁.heap.update a (Obj.mapSeq (· ++ ws))).get? b = some o := fun b o hb e => (Heap.get?_update_other _ _ (Ne.symm hb)).trans e
        refine k _ _ (mut_post K ⟨_, _, rfl⟩ hP hk ((R.keeps K).mutate O (V.kept (keeps_get K)) hx hi hρ hg1 hn' hk ?_))
        simpa using (hr.kept (keeps_get K)).append hr2
    · cases hd
  · cases hd

/-- x[j] = e -/
noncomputable def sSet (i : Nat) (mi mv : Fe) : Fs := fun σ => match σ[i]? with
  | some (.own ds) => (match mv σ with
    | some d => (match mi σ with
      | some (.int (.ofNat j)) => (match short ds with
        | true => (match Nat.blt j ds.length with | true => some (σ.set i (.own (ds.set j d)), none) | false => none)
        | false => none)
      | _ => none)
    | none => none)
  | _ => none
theorem SS_set {C : Cx} (O : C.Ok) {i : Nat} {x : Str} {ix e : Expr} {p1 sp pos : Pos} {mi mv : Fe} (hx : C.names[i]? = some x) (hi' : SE C (eval ix C.env) mi) (h : SE C (eval e C.env) mv)
    (hs : swapsWith e (some (.Subscript (.Name x p1) ix sp)) pos.line C.env = pure false := by rfl) :
    SS C (exec (.Assign [.Subscript (.Name x p1) ix sp] e pos) C.env) (sSet i mi mv) := by
  intro X P U σ s Q R σ' r hd k
  unfold sSet at hd
  split at hd
  · rename_i ds hi
    split at hd
    · rename_i d hm
      split at hd
      · rename_i j hj
        split at hd
        · rename_i hsh
          split at hd <;> cases hd
          rename_i hlt
          have hlt := (PySem.W.Z.blt_iff).mp hlt
          obtain ⟨ρ, V⟩ := R.vars
          obtain ⟨a, vs, n, hρ, hU, hP, hg, hr⟩ := own_at (X := X) V hx hi
          refine wpAny_Assign_Subscript (h X P U σ s _ R d hm fun v s₁ K q => ?_) hs
          refine (ld_name O (V.kept (keeps_get K)).fr hx hρ ?_).2
          refine hi' X P U σ s₁ _ (R.keeps K) _ hj fun w s₂ K' q' => ?_
          cases q'
          have l1 := hr.length
          have l3 := short_le hsh
          simp only [Array.length_toList] at l1
          have K2 := keeps_trans K K'
          have hg2 := keeps_get K2 _ _ hg
          have hjv : (Int.ofNat j) < 2 ^ 63 := by show (j : Int) < 2 ^ 63; omega
          have hjn : (Int.ofNat j) < (vs.size : Int) := by show (j : Int) < (vs.size : Int); omega
          have hn' := upd_list (·.setIfInBounds (Int.ofNat j).toNat v) hg2
          obtain ⟨n', hn'⟩ := hn'
          have hk : ∀ b o, b ≠ a → s₂.heap.get? b = some o → (s₂.heap.update a (Obj.mapSeq (·.setIfInBounds (Int.ofNat j).toNat v))).get? b = some o := fun b o hb e => (Heap.get?_update_other _ _ (Ne.symm hb)).trans e
          refine PySem.W.ki_setAt hg2 (Int.natCast_nonneg j) hjv hjn ?_
          refine k _ _ (mut_post K2 ⟨_, _, rfl⟩ hP hk ((R.keeps K2).mutate O (V.kept (keeps_get K2)) hx hi hρ hg2 hn' hk ?_))
          have e1 : (vs.setIfInBounds (Int.ofNat j).toNat v).toList = vs.toList.set j v := by
            rw [Array.toList_setIfInBounds]; rfl
          rw [e1]
          exact (hr.kept (keeps_get K2)).set j (q.kept (keeps_get K'))
        · cases hd
      · cases hd
    · cases hd
  · cases hd

/-- y = x.pop() -/
noncomputable def sPop (i j : Nat) : Fs := fun σ => match σ[i]? with
  | some (.own ds) => (match ds[ds.length - 1]? with
    | some d => (match short ds with | true => some ((σ.set i (.own (ds.eraseIdx (ds.length - 1)))).set j (.val d), none) | false => none)
    | none => none)
  | _ => none
theorem SS_pop {C : Cx} (O : C.Ok) {i j : Nat} {x y : Str} {p p1 ap cp pos : Pos} (hx : C.names[i]? = some x) (hy : C.names[j]? = some y) (hj : j < C.ro)
    (hline : (ap.endLine == cp.line) = true := by rfl)
    (hbase : attributeBase (.Name x p1) "pop" C.env (eval (.Name x p1) C.env) = eval (.Name x p1) C.env := by rfl) (hs : swapsWith (.Call (.Attribute (.Name x p1) "pop" ap) [] [] cp) (some (.Name y p)) pos.line C.env = pure false := by rfl) :
    SS C (exec (.Assign [.Name y p] (.Call (.Attribute (.Name x p1) "pop" ap) [] [] cp) pos) C.env) (sPop i j) := by
  intro X P U σ s Q R σ' r hd k
  unfold sPop at hd
  split at hd
  · rename_i ds hi
    split at hd
    · rename_i d hd'
      split at hd <;> cases hd
      rename_i hsh
      obtain ⟨ρ, V⟩ := R.vars
      obtain ⟨a, vs, n, hρ, hU, hP, hg, hr⟩ := own_at (X := X) V hx hi
      refine wpAny_Assign_Name ?_ hs
      refine wpAny_Call_method (T := "list") (id := "list.pop") hbase rfl hline F.plainAttrs_list F.slot_list_pop F.type_list_pop ((ld_name O V.fr hx hρ ?_).2)
      refine ⟨⟨_, hg, rfl⟩, fun b hb => by cases hb; exact ⟨_, hg, rfl⟩, ?_⟩
      have l1 := hr.length
      have l3 := short_le hsh
      simp only [Array.length_toList] at l1
      obtain ⟨v, hv, hrd⟩ := hr.get hd'
      refine PySem.P.pop_list (y := v) hg (by rw [← l1] at hv; simpa using hv) ?_ (by rw [sl]; omega)
      obtain ⟨n', hn'⟩ := upd_list (fun xs => xs.eraseIdxIfInBounds (vs.size - 1)) hg
      have hk : ∀ b o, b ≠ a → s.heap.get? b = some o → (s.heap.update a (Obj.mapSeq fun xs => xs.eraseIdxIfInBounds (vs.size - 1))).get? b = some o := fun b o hb e => (Heap.get?_update_other _ _ (Ne.symm hb)).trans e
      have e1 : (vs.eraseIdxIfInBounds (vs.size - 1)).toList = vs.toList.eraseIdx (ds.length - 1) := by
        rw [Array.toList_eraseIdxIfInBounds, l1]
      have R'' : Rel C X P U (σ.set i (.own (ds.eraseIdx (ds.length - 1)))) { s with heap := s.heap.update a (Obj.mapSeq fun xs => xs.eraseIdxIfInBounds (vs.size - 1)) } :=
        R.mutate (s' := { s with heap := s.heap.update a (Obj.mapSeq fun xs => xs.eraseIdxIfInBounds (vs.size - 1)) }) O V hx hi hρ hg hn' hk (by rw [e1]; exact hr.eraseIdx _)
      obtain ⟨ρ', V'⟩ := R''.vars
      refine st_name O R'' V'.fr hj hy fun h' tk qc F => ?_
      have hrd' : Rd U (s.heap.update a (Obj.mapSeq fun xs => xs.eraseIdxIfInBounds (vs.size - 1))) v d := hrd.mono (fun _ q => q) fun b o hb e => hk b o (fun q => hb (q ▸ hU)) e
      have R3 := (R''.stored O V' hy hj qc F (.val d) ⟨v, upd_eq, hrd'⟩ (tk := tk) fun ds a e => by cases e).1
      exact k _ _ ⟨⟨_, _, rfl⟩, fun b o p e => qc.kp b o p (hk b o (fun q => hP (q ▸ p)) e), rfl, U, R3⟩
    · cases hd
  · cases hd

/-- x += e, of ints -/
noncomputable def sAug (i : Nat) (m : Fe) : Fs := fun σ => match σ[i]? with
  | some (.val (.int a)) => (match m σ with | some (.int b) => some (σ.set i (.val (.int (a + b))), none) | _ => none)
  | _ => none
theorem SS_aug {C : Cx} (O : C.Ok) {i : Nat} {x : Str} {e : Expr} {p pos : Pos} {m : Fe} (hx : C.names[i]? = some x) (hi' : i < C.ro) (h : SE C (eval e C.env) m) :
    SS C (exec (.AugAssign (.Name x p) .Add e pos) C.env) (sAug i m) := by
  intro X P U σ s Q R σ' r hd k
  unfold sAug at hd
  split at hd
  · rename_i a hi
    split at hd <;> cases hd
    rename_i b hb
    obtain ⟨ρ, V⟩ := R.vars
    obtain ⟨v, hv, hrd⟩ := V.slot i x _ hx hi
    cases hrd
    refine wpAny_AugAssign_Name ((ld_name (pos := pos) O V.fr hx hv ?_).1)
    refine h X P U σ s _ R _ hb fun w s₁ K q => ?_
    cases q
    refine PySem.P.iadd_int ?_
    have K' := keeps_trans K (keeps_tok s₁ (s₁.toks + 1))
    refine st_name O (R.keeps K') (V.kept (keeps_get K')).fr hx (x := x) (i := i) (hi := hi') ?_
    intro h' tk qc F
    refine k _ _ (Upd1.post (Upd1.after K' ⟨⟨_, _, rfl⟩, qc, ((R.keeps K').stored O (V.kept (keeps_get K')) hx hi' qc F (.val _) ⟨_, upd_eq, .int _ _⟩ fun ds a e => by cases e).1⟩))
  · cases hd
end Pf

namespace Pf
open PySem PySem.Calls PyProof.Rows

/- ---- while ---- -/
noncomputable def sWhile : Nat → Ft → Fs → Fs
  | 0, _, _ => fun _ => none
  | n + 1, t, b => fun σ => match t σ with
    | some true => (match b σ with
      | some (σ', none) => sWhile n t b σ'
      | some (σ', some d) => some (σ', some d)
      | none => none)
    | some false => some (σ, none)
    | none => none
theorem SS_while {C : Cx} {t : Expr} {b : List Stmt} {pos : Pos} {mt : Ft} {mb : Fs} (fuel : Nat) (ht : ST C (isTrue t C.env (eval t C.env)) mt) (hb : SS C (execs b C.env) mb) :
    SS C (exec (.While t b [] pos) C.env) (sWhile fuel mt mb) := by
  intro X P U σ s Q R σ' r hd k
  refine wpAny_While (codeAny_whileLoop (fun n s' => ∃ σk Uk, sWhile n mt mb σk = some (σ', r) ∧ Rel C X P Uk σk s' ∧ (∃ h' tk, s' = { s with heap := h', toks := tk }) ∧ (∀ b o, P b → s.heap.get? b = some o → s'.heap.get? b = some o)) ?_ fuel
    ⟨σ, U, hd, R, ⟨_, _, rfl⟩, fun _ _ _ e => e⟩)
  rintro n s₁ ⟨σk, Uk, hk, Rk, sh, kp⟩
  cases n with
  | zero => simp [sWhile] at hk
  | succ n =>
    simp only [sWhile] at hk
    split at hk
    · rename_i e
      refine W.any (ht X P Uk σk s₁ _ Rk true e fun s₂ K => ?_)
      simp only [if_true]
      have sh2 := shape_trans sh (keeps_shape K)
      have kp2 : ∀ b o, P b → s.heap.get? b = some o → s₂.heap.get? b = some o := fun b o p e => keeps_get K b o (kp b o p e)
      split at hk
      · rename_i σ₁ e1
        refine W.any (hb X P Uk σk s₂ _ (Rk.keeps K) σ₁ none e1 fun fl s₃ p => ?_)
        obtain ⟨p1, p2, rfl, U', R'⟩ := p
        exact ⟨n, Nat.lt_succ_self n, σ₁, U', hk, R', shape_trans sh2 p1, fun b o p e => p2 b o p (kp2 b o p e)⟩
      · rename_i σ₁ d e1
        cases hk
        refine W.any (hb X P Uk σk s₂ _ (Rk.keeps K) _ (some d) e1 fun fl s₃ p => ?_)
        obtain ⟨p1, p2, v, rfl, hv⟩ := p
        exact k _ _ ⟨shape_trans sh2 p1, fun b o p e => p2 b o p (kp2 b o p e), v, rfl, hv⟩
      · cases hk
    · rename_i e
      cases hk
      refine W.any (ht X P Uk _ s₁ _ Rk false e fun s₂ K => ?_)
      simp only [Bool.false_eq_true, if_false]
      refine wpAny_execs_nil (k _ _ ⟨shape_trans sh (keeps_shape K), fun b o p e => keeps_get K b o (kp b o p e), rfl, Uk, Rk.keeps K⟩)
    · cases hk

/- ---- iterators ---- -/
structure It (G : Gx) (A : Around) (Z : AS) (I : Addr) (wr : List Addr) (okT : Expr → Bool) (Sta : List D → Heap → Prop) (Mid : Value → List D → Heap → Prop) : Prop where
  frame : ∀ ds h h', Sta ds h → (∀ b o, Z b ∨ b ∈ wr → h.get? b = some o → h'.get? b = some o) → Sta ds h'
  alive : ∀ ds h, Sta ds h → ∀ b ∈ wr, ∃ o, h.get? b = some o
  aliveM : ∀ v ds h, Mid v ds h → ∀ b ∈ wr, ∃ o, h.get? b = some o
  item : ∀ d ds s (Q : Option Value → Shared → Prop), Sta (d :: ds) s.heap →
    (∀ v h' tk, (∀ b o, b ∉ wr → s.heap.get? b = some o → h'.get? b = some o) → (∀ U' : AS, (∀ a, U' a → ¬ Z a) → (∀ a, U' a → ∃ o, s.heap.get? a = some o) → Rd U' h' v d) → Mid v ds h' → Q (some v) { s with heap := h', toks := tk }) → W G A (pyNext (.ref I)) Q s
  go : ∀ t v ds s (Q : Unit → Shared → Prop), okT t = true → Mid v ds s.heap → (∀ h', (∀ b o, b ∉ wr → s.heap.get? b = some o → h'.get? b = some o) → Sta ds h' → Q () { s with heap := h' }) → W G A (letOwnedTupleGo t (.ref I) v) Q s
  done : ∀ s (Q : Option Value → Shared → Prop), Sta [] s.heap → (∀ h' tk, (∀ b o, b ∉ wr → s.heap.get? b = some o → h'.get? b = some o) → Q none { s with heap := h', toks := tk }) → W G A (pyNext (.ref I)) Q s
  self : ∀ ds s (Q : Value → Shared → Prop), Sta ds s.heap → Q (.ref I) s → W G A (pyIter (.ref I)) Q s

/-- an expression that a loop goes over -/
noncomputable def SI (C : Cx) (e : Expr) (okT : Expr → Bool) (m : Fl) : Prop :=
  ∀ X P U σ s (Q : Value → Shared → Prop), Rel C X P U σ s → ∀ ds, m σ = some ds →
    (∀ I wr Z Sta Mid s', Keeps s s' → (∀ b ∈ wr, s.heap.get? b = none) → (∀ b ∈ wr, ¬ Z b) → (∀ b, Z b → ∃ o, s'.heap.get? b = some o ∧ Sq o) → (∀ b, Z b → ¬ U b) → It C.G C.A Z I wr okT Sta Mid → Sta ds s'.heap → Q (.ref I) s') →
    W C.G C.A (eval e C.env) (fun x s₁ => W C.G C.A (pyIter x) Q s₁) s

theorem not_live' {h : Heap} {a : Addr} {o : Obj} (e : h.get? a = some o) (n : h.get? a = none) : False := by rw [n] at e; cases e
/-- the state as the loop's body knows it -/
theorem Rel.loop {C : Cx} {X P U : AS} {σ : St} {s s' : Shared} (R : Rel C X P U σ s) (K : Keeps s s') {wr : List Addr} {Z : AS} (fr : ∀ b ∈ wr, s.heap.get? b = none) (lv : ∀ b ∈ wr, ∃ o, s'.heap.get? b = some o)
    (zl : ∀ b, Z b → ∃ o, s'.heap.get? b = some o ∧ Sq o) (zu : ∀ b, Z b → ¬ U b) :
    Rel C (fun b => X b ∨ b ∈ wr) (fun b => P b ∨ Z b ∨ b ∈ wr) (fun b => U b ∨ b ∈ wr) σ s' := by
  obtain ⟨ρ, V⟩ := R.vars
  have nw : ∀ b o, s.heap.get? b = some o → b ∉ wr := fun b o e q => not_live' e (fr b q)
  obtain ⟨m, ⟨oL, es, ep, hoL, hdL, _⟩, _⟩ := V.fr.ns
  have sqL : ∀ o, s'.heap.get? C.env.locals = some o → ¬ Sq o := fun o e ⟨vs, n, q⟩ => by
    rw [keeps_get K _ _ hoL] at e
    cases e
    rcases q with q | q <;> rw [q] at hdL <;> cases hdL
  have cellF : ∀ (i : Nat) x c, C.names[i]? = some x → C.env.kindOf x ≠ some .local → C.env.cells.lookup x = some c → ∃ o, s.heap.get? c = some o ∧ ¬ Sq o := fun i x c hx hk hc => by
    obtain ⟨o, ho, hd⟩ := V.fr.cell x c (List.mem_of_getElem? hx) hk hc
    exact ⟨o, ho, fun ⟨vs, n, q⟩ => by rcases q with q | q <;> rw [q] at hd <;> cases hd⟩
  refine ⟨fun b o e => ?_, fun b q => q.imp (R.xu b) id, fun b q => q.elim (fun q => .inl (R.xp b q)) fun q => .inr (.inr q), fun b q => ?_, fun b q => ?_, fun b q => ?_, ?_, fun i x c hi hx hk hc => ?_, fun i x c hx hk hc => ?_, R.len, ρ, V.fr.kept (keeps_get K), fun i x sl hx hs => ?_, V.one, V.fx⟩
  · obtain ⟨q1, q2, q3⟩ := R.base b o e
    exact ⟨keeps_get K _ _ q1, .inl q2, fun q => q.elim q3 (nw b o q1)⟩
  · rcases q with q | q
    · obtain ⟨o, e⟩ := R.ul b q; exact ⟨o, keeps_get K _ _ e⟩
    · exact lv b q
  · rcases q with q | q | q
    · obtain ⟨o, e⟩ := R.pl b q; exact ⟨o, keeps_get K _ _ e⟩
    · obtain ⟨o, e, _⟩ := zl b q; exact ⟨o, e⟩
    · exact lv b q
  · rcases q with q | q
    · obtain ⟨o, e⟩ := R.ul b q
      rcases R.pu b q with z | z
      · exact .inl (.inl z)
      · right
        rintro (y | y | y)
        · exact z y
        · exact zu b y q
        · exact nw b o e y
    · exact .inl (.inr q)
  · rintro (q | q | q)
    · exact R.pL q
    · obtain ⟨o, e, z⟩ := zl _ q; exact sqL o e z
    · exact nw _ _ hoL q
  · obtain ⟨o, ho, hn⟩ := cellF i x c hx hk hc
    rintro (q | q | q)
    · exact R.pC i x c hi hx hk hc q
    · obtain ⟨o', e, z⟩ := zl _ q
      rw [keeps_get K _ _ ho] at e
      cases e
      exact hn z
    · exact nw _ _ ho q
  · obtain ⟨o, ho, _⟩ := cellF i x c hx hk hc
    exact fun q => q.elim (R.xC i x c hx hk hc) (nw c o ho)
  · have := V.slot i x sl hx hs
    have av : ∀ a o, a ∈ wr → s.heap.get? a = some o → U a := fun a o q e => absurd q (nw a o e)
    cases sl with
    | un => trivial
    | val d => obtain ⟨v, g1, g2⟩ := this; exact ⟨v, g1, (g2.avoid av).kept (keeps_get K)⟩
    | own ds =>
      obtain ⟨a, vs, n, g1, g2, g3, g4, g5⟩ := this
      refine ⟨a, vs, n, g1, .inl g2, ?_, keeps_get K _ _ g4, (g5.avoid av).kept (keeps_get K)⟩
      rintro (q | q | q)
      · exact g3 q
      · exact zu a q g2
      · exact nw _ _ g4 q
/-- a change of what is forbidden alone -/
theorem Rel.forbid {C : Cx} {X P U : AS} {σ : St} {s s' : Shared} (R : Rel C X P U σ s) (hk : ∀ b o, ¬ X b → s.heap.get? b = some o → s'.heap.get? b = some o) (lv : ∀ b, X b → ∃ o, s'.heap.get? b = some o) : Rel C X P U σ s' := by
  obtain ⟨ρ, V⟩ := R.vars
  have al : ∀ b o, s.heap.get? b = some o → ∃ o', s'.heap.get? b = some o' := fun b o e => by
    by_cases q : X b
    · exact lv b q
    · exact ⟨o, hk b o q e⟩
  refine ⟨fun b o e => let ⟨q1, q2, q3⟩ := R.base b o e; ⟨hk b o q3 q1, q2, q3⟩, R.xu, R.xp, fun b q => let ⟨o, e⟩ := R.ul b q; al b o e, fun b q => let ⟨o, e⟩ := R.pl b q; al b o e, R.pu, R.pL, R.pC, R.xC, R.len, ρ, ⟨?_, fun x c hm hx hc => ?_⟩, fun i x sl hx hs => ?_, V.one, V.fx⟩
  · obtain ⟨m, ⟨o, es, ep, ho, hr⟩, e⟩ := V.fr.ns
    exact ⟨m, ⟨o, es, ep, hk _ _ (fun q => R.pL (R.xp _ q)) ho, hr⟩, e⟩
  · obtain ⟨i, hi⟩ := List.getElem?_of_mem hm
    obtain ⟨o, ho, hd⟩ := V.fr.cell x c hm hx hc
    exact ⟨o, hk _ _ (fun q => R.xC i x c hi hx hc (R.xu _ q)) ho, hd⟩
  · have := V.slot i x sl hx hs
    have hk' : ∀ b o, ¬ U b → s.heap.get? b = some o → s'.heap.get? b = some o := fun b o q e => hk b o (fun z => q (R.xu b z)) e
    cases sl with
    | un => trivial
    | val d => obtain ⟨v, g1, g2⟩ := this; exact ⟨v, g1, g2.mono (fun _ q => q) hk'⟩
    | own ds =>
      obtain ⟨a, vs, n, g1, g2, g3, g4, g5⟩ := this
      exact ⟨a, vs, n, g1, g2, g3, hk _ _ (fun q => g3 (R.xp _ q)) g4, g5.mono (fun _ q => q) hk'⟩
theorem Rel.unloop {C : Cx} {X P U U0 : AS} {σ σ0 : St} {s s' s0 : Shared} {wr : List Addr} {Z : AS} (R0 : Rel C X P U0 σ0 s0) (R : Rel C (fun b => X b ∨ b ∈ wr) (fun b => P b ∨ Z b ∨ b ∈ wr) U σ s) (fr : ∀ b ∈ wr, s0.heap.get? b = none)
    (hk : ∀ b o, b ∉ wr → s.heap.get? b = some o → s'.heap.get? b = some o) : Rel C X P (fun b => U b ∧ b ∉ wr) σ s' := by
  obtain ⟨ρ, V⟩ := R.vars
  have xw : ∀ b, X b → b ∉ wr := fun b q w => by obtain ⟨o, e⟩ := R0.ul b (R0.xu b q); exact not_live' e (fr b w)
  have hk' : ∀ b o, ¬ U b → s.heap.get? b = some o → s'.heap.get? b = some o := fun b o q e => hk b o (fun w => q (R.xu b (.inr w))) e
  refine ⟨fun b o e => ⟨hk b o (fun w => (R.base b o e).2.2 (.inr w)) (R.base b o e).1, (R0.base b o e).2⟩, fun b q => ⟨R.xu b (.inl q), xw b q⟩, R0.xp, fun b q => let ⟨o, e⟩ := R.ul b q.1; ⟨o, hk b o q.2 e⟩, fun b q => ?_, fun b q => ?_, R0.pL, R0.pC, fun i x c hx hk hc q => R.xC i x c hx hk hc q.1, R.len, ρ, ⟨?_, fun x c hm hx hc => ?_⟩, fun i x sl hx hs => ?_, V.one, V.fx⟩
  · obtain ⟨o, e⟩ := R.pl b (.inl q)
    obtain ⟨o0, e0⟩ := R0.pl b q
    exact ⟨o, hk b o (fun w => not_live' e0 (fr b w)) e⟩
  · rcases R.pu b q.1 with z | z
    · exact z.elim .inl fun w => absurd w q.2
    · exact .inr fun y => z (.inl y)
  · obtain ⟨m, ⟨o, es, ep, ho, hr⟩, e⟩ := V.fr.ns
    exact ⟨m, ⟨o, es, ep, hk _ _ (fun q => R.pL (.inr (.inr q))) ho, hr⟩, e⟩
  · obtain ⟨i, hi⟩ := List.getElem?_of_mem hm
    obtain ⟨o, ho, hd⟩ := V.fr.cell x c hm hx hc
    exact ⟨o, hk' _ _ (fun q => R.xC i x c hi hx hc q) ho, hd⟩
  · have := V.slot i x sl hx hs
    cases sl with
    | un => trivial
    | val d => obtain ⟨v, g1, g2⟩ := this; exact ⟨v, g1, g2.mono (fun _ q => q.1) hk'⟩
    | own ds =>
      obtain ⟨a, vs, n, g1, g2, g3, g4, g5⟩ := this
      exact ⟨a, vs, n, g1, ⟨g2, fun q => g3 (.inr (.inr q))⟩, fun q => g3 (.inl q), hk _ _ (fun q => g3 (.inr (.inr q))) g4, g5.mono (fun _ q => q.1) hk'⟩

/- ---- for ---- -/
noncomputable def sForL (g : St → D → Option St) (b : Fs) : List D → Fs
  | [] => fun σ => some (σ, none)
  | d :: ds => fun σ => match g σ d with
    | some σ₁ => (match b σ₁ with
      | some (σ₂, none) => sForL g b ds σ₂
      | some (σ₂, some r) => some (σ₂, some r)
      | none => none)
    | none => none
noncomputable def sFor (m : Fl) (g : St → D → Option St) (b : Fs) : Fs := fun σ => match m σ with
  | some ds => sForL g b ds σ
  | none => none
theorem SS_for {C : Cx} (O : C.Ok) {t e : Expr} {b : List Stmt} {pos : Pos} {okT : Expr → Bool} {m : Fl} {g : St → D → Option St} {mb : Fs} (hI : SI C e okT m) (ht : TG C t g) (hok : okT t = true) (hb : SS C (execs b C.env) mb)
    (hs : ∀ x, foldedSetIterable e C.env x = pure x := by intro _; rfl) : SS C (exec (.For t e b [] pos) C.env) (sFor m g mb) := by
  intro X P U σ s Q R σ' r hd k
  unfold sFor at hd
  split at hd
  · rename_i ds hm
    refine wpAny_For (hI X P U σ s _ R ds hm fun I wr Z Sta Mid s₁ K fr wz zl zu T st => ?_) hs
    have R₁ := R.loop K fr (T.alive ds s₁.heap st) zl zu
    refine codeAny_forLoop_any (fun n s' => ∃ rest σk Uk, n = rest.length ∧ sForL g mb rest σk = some (σ', r) ∧ Sta rest s'.heap ∧ Rel C (fun b => X b ∨ b ∈ wr) (fun b => P b ∨ Z b ∨ b ∈ wr) Uk σk s' ∧
      (∃ h' tk, s' = { s with heap := h', toks := tk }) ∧ (∀ b o, P b → s.heap.get? b = some o → s'.heap.get? b = some o)) ?_ ds.length ⟨ds, σ, _, rfl, hd, st, R₁, keeps_shape K, fun b o _ e => keeps_get K b o e⟩
    rintro n s₂ ⟨rest, σk, Uk, rfl, hk, sta, Rk, sh, kp⟩
    have pw : ∀ b o, P b → s.heap.get? b = some o → b ∉ wr := fun b o _ e q => not_live' e (fr b q)
    have xw : ∀ b, X b → b ∉ wr := fun b q w => by obtain ⟨o, e⟩ := R.ul b (R.xu b q); exact not_live' e (fr b w)
    have fb : ∀ {σk Uk s₂ h' tk}, Rel C (fun b => X b ∨ b ∈ wr) (fun b => P b ∨ Z b ∨ b ∈ wr) Uk σk s₂ → (∀ b o, b ∉ wr → s₂.heap.get? b = some o → h'.get? b = some o) → (∀ b ∈ wr, ∃ o, h'.get? b = some o) →
        Rel C (fun b => X b ∨ b ∈ wr) (fun b => P b ∨ Z b ∨ b ∈ wr) Uk σk { s₂ with heap := h', toks := tk } := fun {σk Uk s₂ h' tk} Rk hk' al =>
      Rk.forbid (s' := { s₂ with heap := h', toks := tk }) (fun b o q e => hk' b o (fun w => q (.inr w)) e) fun b q => q.elim (fun q => by
        obtain ⟨o, e⟩ := Rk.ul b (Rk.xu b (.inl q))
        exact ⟨o, hk' b o (xw b q) e⟩) (al b)
    cases rest with
    | nil =>
      simp only [sForL] at hk
      cases hk
      refine W.any (T.done s₂ _ sta fun h' tk hk' => ?_)
      have R₃ := R.unloop (s' := { s₂ with heap := h', toks := tk }) Rk fr hk'
      exact wpAny_execs_nil (k _ _ ⟨shape_trans sh ⟨_, _, rfl⟩, fun b o p e => hk' b o (pw b o p e) (kp b o p e), rfl, _, R₃⟩)
    | cons d rest =>
      simp only [sForL] at hk
      refine W.any (T.item d rest s₂ _ sta fun v h₃ tk₃ hk₃ hv mid => ?_)
      have R₃ := fb (tk := tk₃) Rk hk₃ (T.aliveM _ _ _ mid)
      have kp₃ : ∀ b o, P b → s.heap.get? b = some o → h₃.get? b = some o := fun b o p e => hk₃ b o (pw b o p e) (kp b o p e)
      have hvU : Rd Uk h₃ v d := hv Uk (fun a q z => (Rk.pu a q).elim (fun q => q.elim (fun q => by
        obtain ⟨o, e⟩ := R.ul a (R.xu a q); exact zu a z (R.xu a q)) fun w => wz a w z) fun y => y (.inr (.inl z))) Rk.ul
      split at hk
      · rename_i σ₁ e1
        refine W.any (T.go t v rest _ _ hok mid fun h₄ hk₄ sta₄ => ?_)
        have R₄ := fb (tk := tk₃) R₃ hk₄ (T.alive _ _ sta₄)
        have hv₄ : Rd Uk h₄ v d := by
          refine Rd.mono (fun _ q => q) (fun b o q e => hk₄ b o (fun w => q (Rk.xu b (.inr w))) e) hvU
        refine W.any (ht _ _ Uk σk _ v d σ₁ _ R₄ hv₄ e1 fun s₅ u => ?_)
        obtain ⟨u1, u2, R₅⟩ := u
        have sta₅ : Sta rest s₅.heap := T.frame _ _ _ sta₄ fun b o q e => u2.kp b o (.inr q) e
        have kp₅ : ∀ b o, P b → s.heap.get? b = some o → s₅.heap.get? b = some o := fun b o p e => u2.kp b o (.inl p) (hk₄ b o (pw b o p e) (kp₃ b o p e))
        have sh₅ : ∃ h' tk, s₅ = { s with heap := h', toks := tk } := shape_trans (shape_trans sh ⟨h₄, tk₃, rfl⟩) u1
        split at hk
        · rename_i σ₂ e2
          refine W.any (hb _ _ Uk σ₁ s₅ _ R₅ σ₂ none e2 fun fl s₆ p => ?_)
          obtain ⟨p1, p2, rfl, U', R₆⟩ := p
          exact ⟨rest.length, Nat.lt_succ_self _, rest, σ₂, U', rfl, hk, T.frame _ _ _ sta₅ fun b o q e => p2 b o (.inr q) e, R₆, shape_trans sh₅ p1, fun b o p e => p2 b o (.inl p) (kp₅ b o p e)⟩
        · rename_i σ₂ r' e2
          cases hk
          refine W.any (hb _ _ Uk σ₁ s₅ _ R₅ _ (some r') e2 fun fl s₆ p => ?_)
          obtain ⟨p1, p2, v', rfl, hv'⟩ := p
          exact k _ _ ⟨shape_trans sh₅ p1, fun b o p e => p2 b o (.inl p) (kp₅ b o p e), v', rfl, hv'.sub fun _ q => .inl q⟩
        · cases hk
      · cases hk
  · cases hd
end Pf

namespace Pf
open PySem PySem.Calls PyProof.Rows

/- ---- the tests of a generator ---- -/
abbrev testsT (ifs : List Expr) (env : Env) : Sem Bool := forIn ifs true fun c r => if r = true then do let ok ← isTrue c env (eval c env); pure (ForInStep.yield ok) else pure (ForInStep.yield r)
theorem ST_t0 {C : Cx} : ST C (testsT [] C.env) (fun _ => some true) := by
  intro X P U σ s Q R b hb k
  cases hb
  exact wpAny_tests_nil (k s (keeps_refl s))
theorem ST_t1 {C : Cx} {c : Expr} {m : Ft} (h : ST C (isTrue c C.env (eval c C.env)) m) : ST C (testsT [c] C.env) m := by
  intro X P U σ s Q R b hb k
  exact wpAny_tests_one (h X P U σ s Q R b hb k)

/- ---- what a generator does with what it finds ---- -/
abbrev Fk := St → Option (St × List D)
noncomputable def SK (C : Cx) (D : Addr) (K : Sem Fin → Sem Fin) (m : Fk) : Prop :=
  ∀ X P U σ s vs n ds (k : Sem Fin) (Q : Fin → Shared → Prop), Rel C X P U σ s → X D → s.heap.get? D = some (lobj vs n) → Rds X s.heap vs.toList ds → ∀ σ' es, m σ = some (σ', es) → ds.length + es.length ≤ 16777216 →
    (∀ s' vs' n' U', (∃ h' tk, s' = { s with heap := h', toks := tk }) → (∀ b o, P b → b ≠ D → s.heap.get? b = some o → s'.heap.get? b = some o) → Rel C X P U' σ' s' → s'.heap.get? D = some (lobj vs' n') → Rds X s'.heap vs'.toList (ds ++ es) → W C.G C.A k Q s') → W C.G C.A (K k) Q s
/-- only objects of X were changed, and they live -/
theorem Rel.forbid' {C : Cx} {X P U : AS} {σ : St} {s s' : Shared} (R : Rel C X P U σ s) {D : Addr} {o : Obj} (hD : X D) (hk : ∀ b o, b ≠ D → s.heap.get? b = some o → s'.heap.get? b = some o) (lv : s'.heap.get? D = some o) : Rel C X P U σ s' :=
  R.forbid (fun b o q e => hk b o (fun z => q (z ▸ hD)) e) fun b q => by
    by_cases e : b = D
    · exact ⟨o, e ▸ lv⟩
    · obtain ⟨o', e'⟩ := R.ul b (R.xu b q)
      exact ⟨o', hk b o' e e'⟩
noncomputable def kE (m : Fe) : Fk := fun σ => match m σ with | some d => some (σ, [d]) | none => none
abbrev emitT (elt : Expr) (D : Addr) (env : Env) : Sem Unit := do let _ ← call (.builtin "list.append") [.ref D, ← eval elt env]
theorem SK_emit {C : Cx} {D : Addr} {elt : Expr} {m : Fe} (h : SE C (eval elt C.env) m) : SK C D (fun k => emitT elt D C.env >>= fun _ => k) (kE m) := by
  intro X P U σ s vs n ds t Q R xD hD hr σ' es hd hsz k
  unfold kE at hd
  split at hd <;> cases hd
  rename_i d hm
  refine wpAny_bind (wpAny_bind (h X P U σ s _ R d hm fun v s₁ K q => wpAny_bind ?_))
  have hD1 := keeps_get K _ _ hD
  have hl := hr.length
  simp only [Array.length_toList] at hl
  refine wpAny_list_append_plain (items := vs) ⟨n, hD1⟩ (fun h' hp hs => ?_) (by rw [sl]; simp at hsz; omega)
  obtain ⟨n', hp⟩ := hp
  have hk : ∀ b o, b ≠ D → s₁.heap.get? b = some o → h'.get? b = some o := fun b o hb e => hs.extBut b o hb e
  refine wpAny_pure (k _ _ n' U (shape_trans (keeps_shape K) ⟨h', s₁.toks, rfl⟩) (fun b o _ hb e => hk b o hb (keeps_get K b o e)) ((R.keeps K).forbid' (s' := { s₁ with heap := h' }) xD hk hp) hp ?_)
  have m1 : Rds X h' vs.toList ds := (hr.kept (keeps_get K)).mono (fun _ q => q) fun b o q e => hk b o (fun z => q (z ▸ xD)) e
  have m2 : Rd X h' v d := q.mono (fun _ q => R.xu _ q) fun b o q e => hk b o (fun z => q (z ▸ R.xu _ xD)) e
  simpa using m1.append (.cons m2 .nil)

/- ---- one loop of a comprehension ---- -/
noncomputable def cLoop (g : St → D → Option St) (mt : Ft) (mb : Fk) : List D → Fk
  | [] => fun σ => some (σ, [])
  | d :: ds => fun σ => match g σ d with
    | some σ₁ => (match mt σ₁ with
      | some true => (match mb σ₁ with
        | some (σ₂, es) => (match cLoop g mt mb ds σ₂ with
          | some (σ₃, fs) => some (σ₃, es ++ fs)
          | none => none)
        | none => none)
      | some false => cLoop g mt mb ds σ₁
      | none => none)
    | none => none
noncomputable def turnForm (target : Expr) (ifs : List Expr) (ipos : Pos) (it : Value) (env : Env) (K : Sem Fin → Sem Fin) (again' : Sem Fin) : Sem Fin :=
  standAt ipos >>= fun _ => pyNext it >>= fun r => match r with
    | none => pure (.done .next)
    | some v => letOwnedTupleGo target it v >>= fun _ => assign target env v >>= fun _ => testsT ifs env >>= fun ok => if ok = true then K again' else again'
theorem comp_loop {C : Cx} {D I : Addr} {elt : Expr} {gens : List Comprehension} {scope : Scope} {pos ipos : Pos} {depth : Nat} {target : Expr} {ifs : List Expr} {K : Sem Fin → Sem Fin} {wr : List Addr} {Z : AS}
    {Sta : List Pf.D → Heap → Prop} {Mid : Value → List Pf.D → Heap → Prop} {okT : Expr → Bool} {g : St → Pf.D → Option St} {mt : Ft} {mb : Fk}
    (hform : compTurn (.ListComp elt gens scope pos) depth (.ref I) (.ref D) C.env = turnForm target ifs ipos (.ref I) C.env K (again (.compLoop (.ListComp elt gens scope pos) depth (.ref I) (.ref D) C.env)))
    (T : It C.G C.A Z I wr okT Sta Mid) (hok : okT target = true) (hT : TG C target g) (hi : ST C (testsT ifs C.env) mt) (hK : SK C D K mb)
    {X P U : AS} {σ σ' : St} {s : Shared} {vs : Array Value} {n : Nat} {ds es rest : List Pf.D} {R : Result → Shared → Prop} (hR : Rel C X P U σ s) (xD : X D) (wD : D ∉ wr) (xw : ∀ b ∈ wr, X b) (zp : ∀ b, Z b → P b) (zx : ∀ b, Z b → ¬ X b)
    (st : Sta rest s.heap) (hD : s.heap.get? D = some (lobj vs n)) (hr : Rds X s.heap vs.toList ds) (hd : cLoop g mt mb rest σ = some (σ', es)) (hsz : ds.length + es.length ≤ 16777216)
    (k : ∀ s' vs' n' U', (∃ h' tk, s' = { s with heap := h', toks := tk }) → (∀ b o, P b → b ≠ D → b ∉ wr → s.heap.get? b = some o → s'.heap.get? b = some o) → (∃ sm, Rel C X P U' σ' sm ∧ ∀ b o, b ∉ wr → sm.heap.get? b = some o → s'.heap.get? b = some o) → s'.heap.get? D = some (lobj vs' n') → Rds X s'.heap vs'.toList (ds ++ es) → R (.ok .next) s') :
    codeAny (model C.G.prog C.G.w) C.A (.compLoop (.ListComp elt gens scope pos) depth (.ref I) (.ref D) C.env) R s := by
  refine codeAny_loop rfl (fun j s' => ∃ rest σk Uk vs n acc fs, j = rest.length ∧ cLoop g mt mb rest σk = some (σ', fs) ∧ acc ++ fs = ds ++ es ∧ Sta rest s'.heap ∧ Rel C X P Uk σk s' ∧ s'.heap.get? D = some (lobj vs n) ∧ Rds X s'.heap vs.toList acc ∧
    (∃ h' tk, s' = { s with heap := h', toks := tk }) ∧ (∀ b o, P b → b ≠ D → b ∉ wr → s.heap.get? b = some o → s'.heap.get? b = some o)) ?_ rest.length ⟨rest, σ, U, vs, n, ds, es, rfl, hd, rfl, st, hR, hD, hr, ⟨_, _, rfl⟩, fun _ _ _ _ _ e => e⟩
  rintro j s₂ ⟨rest, σk, Uk, vs, n, acc, fs, rfl, hk, hac, sta, Rk, hD, hr, sh, kp⟩
  show wpAny _ C.A ((compTurn (.ListComp elt gens scope pos) depth (.ref I) (.ref D) C.env).onRaise (fun x => do noteFrame x C.env; theTreesLotGoes x)) _ _ s₂
  refine wpAny_noted ?_
  rw [hform]
  unfold turnForm
  have fb : ∀ {σk Uk s₂ h' tk}, Rel C X P Uk σk s₂ → (∀ b o, b ∉ wr → s₂.heap.get? b = some o → h'.get? b = some o) → (∀ b ∈ wr, ∃ o, h'.get? b = some o) → Rel C X P Uk σk { s₂ with heap := h', toks := tk } :=
    fun {σk Uk s₂ h' tk} Rk hk' al => Rk.forbid (s' := { s₂ with heap := h', toks := tk }) (fun b o q e => hk' b o (fun w => q (xw b w)) e) fun b q => by
      by_cases w : b ∈ wr
      · exact al b w
      · obtain ⟨o, e⟩ := Rk.ul b (Rk.xu b q); exact ⟨o, hk' b o w e⟩
  have fr : ∀ {h h' : Heap} {ws : List Value} {ds : List Pf.D}, Rds X h ws ds → (∀ b o, b ∉ wr → h.get? b = some o → h'.get? b = some o) → Rds X h' ws ds := fun r hk' => r.mono (fun _ q => q) fun b o q e => hk' b o (fun w => q (xw b w)) e
  refine wpAny_bind (wpAny_standAt (wpAny_bind ?_))
  cases rest with
  | nil =>
    simp only [cLoop] at hk
    cases hk
    refine W.any (T.done s₂ _ sta fun h' tk hk' => wpAny_pure ?_)
    rw [List.append_nil] at hac
    subst hac
    exact k _ vs n Uk (shape_trans sh ⟨h', tk, rfl⟩) (fun b o p n1 n2 e => hk' b o n2 (kp b o p n1 n2 e)) ⟨s₂, Rk, hk'⟩ (hk' _ _ wD hD) (fr hr hk')
  | cons d rest =>
    simp only [cLoop] at hk
    refine W.any (T.item d rest s₂ _ sta fun v h₃ tk₃ hk₃ hv mid => ?_)
    have R₃ := fb (tk := tk₃) Rk hk₃ (T.aliveM _ _ _ mid)
    have hvU : Rd Uk h₃ v d := hv Uk (fun a q z => (Rk.pu a q).elim (zx a z) fun y => y (zp a z)) Rk.ul
    split at hk
    · rename_i σ₁ e1
      refine wpAny_bind (W.any (T.go target v rest _ _ hok mid fun h₄ hk₄ sta₄ => ?_))
      have R₄ := fb (tk := tk₃) R₃ hk₄ (T.alive _ _ sta₄)
      have hv₄ : Rd Uk h₄ v d := hvU.mono (fun _ q => q) fun b o q e => hk₄ b o (fun w => q (Rk.xu b (xw b w))) e
      refine wpAny_bind (W.any (hT _ _ Uk σk _ v d σ₁ _ R₄ hv₄ e1 fun s₅ u => ?_))
      obtain ⟨u1, u2, R₅⟩ := u
      have k45 : ∀ b o, Z b ∨ b ∈ wr → h₄.get? b = some o → s₅.heap.get? b = some o := fun b o q e => u2.kp b o (q.elim (zp b) fun w => R₅.xp b (xw b w)) e
      have sta₅ : Sta rest s₅.heap := T.frame _ _ _ sta₄ k45
      have kp₅ : ∀ b o, P b → b ≠ D → b ∉ wr → s.heap.get? b = some o → s₅.heap.get? b = some o := fun b o p n1 n2 e => u2.kp b o p (hk₄ b o n2 (hk₃ b o n2 (kp b o p n1 n2 e)))
      have sh₅ : ∃ h' tk, s₅ = { s with heap := h', toks := tk } := shape_trans (shape_trans sh ⟨h₄, tk₃, rfl⟩) u1
      have hD₅ : s₅.heap.get? D = some (lobj vs n) := u2.kp _ _ (R₅.xp _ xD) (hk₄ _ _ wD (hk₃ _ _ wD hD))
      have hr₅ : Rds X s₅.heap vs.toList acc := (fr (fr hr hk₃) hk₄).quiet u2.kq
      refine wpAny_bind ?_
      split at hk
      · rename_i e2
        refine W.any (hi X P Uk σ₁ s₅ _ R₅ true e2 fun s₆ K => ?_)
        have sh₆ := shape_trans sh₅ (keeps_shape K)
        have kg := keeps_get K
        simp only [if_true]
        split at hk
        · rename_i σ₂ es₁ e3
          split at hk
          · rename_i σ₃ fs₁ e4
            cases hk
            refine W.any (hK X P Uk σ₁ s₆ vs n acc _ _ (R₅.keeps K) xD (kg _ _ hD₅) (hr₅.kept kg) σ₂ es₁ e3 ?_ fun s₇ vs' n' U' q1 q2 R₇ hD₇ hr₇ => ?_)
            · have := congrArg List.length hac
              simp at this
              omega
            · exact wpAny_pure ⟨rfl, rest.length, Nat.lt_succ_self _, rest, σ₂, U', vs', n', acc ++ es₁, fs₁, rfl, e4, by rw [List.append_assoc]; exact hac,
                T.frame _ _ _ sta₅ fun b o q e => q2 b o (q.elim (zp b) fun w => R₅.xp b (xw b w)) (fun z => q.elim (fun q => zx b q (z ▸ xD)) fun q => wD (z ▸ q)) (kg _ _ e), R₇, hD₇, hr₇, shape_trans sh₆ q1,
                fun b o p n1 n2 e => q2 b o p n1 (kg _ _ (kp₅ b o p n1 n2 e))⟩
          · cases hk
        · cases hk
      · rename_i e2
        refine W.any (hi X P Uk σ₁ s₅ _ R₅ false e2 fun s₆ K => ?_)
        have sh₆ := shape_trans sh₅ (keeps_shape K)
        have kg := keeps_get K
        simp only [Bool.false_eq_true, if_false]
        exact wpAny_pure ⟨rfl, rest.length, Nat.lt_succ_self _, rest, σ₁, Uk, vs, n, acc, fs, rfl, hk, hac, T.frame _ _ _ sta₅ fun b o q e => kg _ _ e, R₅.keeps K, kg _ _ hD₅, hr₅.kept kg, sh₆, fun b o p n1 n2 e => kg _ _ (kp₅ b o p n1 n2 e)⟩
      · cases hk
    · cases hk
end Pf

namespace Pf
open PySem PySem.Calls PyProof.Rows

theorem codeAny_compStart_at {G : Gx} {A : Around} {elt target iter : Expr} {ifs : List Expr} {gens : List Comprehension} {scope : Scope} {pos : Pos} {depth : Nat} {it acc : Value} {env : Env} {R : Result → Shared → Prop} {s : Shared}
    (hg : gens[depth]? = some ⟨target, iter, ifs, 0⟩)
    (h0 : codeAny (model G.prog G.w) A (.compLoop (.ListComp elt gens scope pos) depth it acc env) R s)
    (h : W G A (pyIter it) (fun it' s' => codeAny (model G.prog G.w) A (.compLoop (.ListComp elt gens scope pos) depth it' acc env) R s') s) :
    codeAny (model G.prog G.w) A (.compStart (.ListComp elt gens scope pos) depth it acc env) R s := by
  refine codeAny_of_tree ?_
  show wpAny _ _ ((compStart (.ListComp elt gens scope pos) depth it acc env).onRaise (fun x => do noteFrame x env; standAt theWindowsPlace)) _ _ s
  refine wpAny_notedAt ?_
  unfold compStart
  have hc : (clausesOf (.ListComp elt gens scope pos))[depth]? = some ⟨target, iter, ifs, 0⟩ := hg
  rw [hc]
  show wpAny _ _ (ask >>= _) _ _ s
  refine wpAny_bind (wpAny_askSetting (wpAny_ite ?_))
  split
  · first
      | exact wpAny_bind (wpAny_pure (wpAny_pure (And.intro rfl h0)))
      | exact wpAny_pure (And.intro rfl h0)
  · refine wpAny_bind (wpAny_rule ?_)
    show wpAny _ _ (standAt iter.pos >>= _) _ _ s
    exact wpAny_bind (wpAny_standAt (wpAny_bind (W.any (wpAny_mono h (fun it' s' h' => wpAny_pure (And.intro rfl h')) fun _ _ x => x))))

/-- the inner generator, as the turn runs it -/
abbrev innerK (elt : Expr) (gens : List Comprehension) (scope : Scope) (pos : Pos) (depth : Nat) (iter : Expr) (acc : Value) (env : Env) (k : Sem Fin) : Sem Fin :=
  eval iter env >>= fun x => standAt iter.pos >>= fun _ => foldedSetIterable iter env x >>= fun x => holding [x] (pyIter x) >>= fun it => runOwn (.compStart (.ListComp elt gens scope pos) depth it acc env) env >>= fun _ => k
noncomputable def kGen (mI : Fl) (g : St → D → Option St) (mt : Ft) (mb : Fk) : Fk := fun σ => match mI σ with | some ds => cLoop g mt mb ds σ | none => none
theorem SK_gen {C : Cx} {B : Addr} {elt : Expr} {gens : List Comprehension} {scope : Scope} {pos : Pos} {depth : Nat} {target iter : Expr} {ifs : List Expr} {K : Sem Fin → Sem Fin}
    {okT : Expr → Bool} {mI : Fl} {g : St → D → Option St} {mt : Ft} {mb : Fk} (hg : gens[depth]? = some ⟨target, iter, ifs, 0⟩)
    (hform : ∀ I, compTurn (.ListComp elt gens scope pos) depth (.ref I) (.ref B) C.env = turnForm target ifs iter.pos (.ref I) C.env K (again (.compLoop (.ListComp elt gens scope pos) depth (.ref I) (.ref B) C.env)))
    (hI : SI C iter okT mI) (hok : okT target = true) (hT : TG C target g) (hi : ST C (testsT ifs C.env) mt) (hK : SK C B K mb) (hs : ∀ x, foldedSetIterable iter C.env x = pure x := by intro _; rfl) :
    SK C B (innerK elt gens scope pos depth iter (.ref B) C.env) (kGen mI g mt mb) := by
  intro X P U σ s vs n ds t Q R xD hD hr σ' es hd hsz k
  unfold kGen at hd
  split at hd
  · rename_i items hm
    refine wpAny_bind (wpAny_mono (hI X P U σ s (fun it s₂ => W C.G C.A (runOwn (.compStart (.ListComp elt gens scope pos) depth it (.ref B) C.env) C.env >>= fun _ => t) Q s₂) R items hm fun I wr Z Sta Mid s₁ K fr wz zl zu T st => ?_) (fun x s₁ h₁ => ?_) fun _ _ e => e)
    · have R₁ := R.loop K fr (T.alive items s₁.heap st) zl zu
      have wD : B ∉ wr := fun q => not_live' hD (fr B q)
      have xw : ∀ b, X b → b ∉ wr := fun b q w => by obtain ⟨o, e⟩ := R.ul b (R.xu b q); exact not_live' e (fr b w)
      have pw : ∀ b o, s.heap.get? b = some o → b ∉ wr := fun b o e q => not_live' e (fr b q)
      have go : codeAny (model C.G.prog C.G.w) C.A (.compLoop (.ListComp elt gens scope pos) depth (.ref I) (.ref B) C.env) (fun r s' => match r with | .ok f => W C.G C.A t Q s' | .error e => cameBackBy (model C.G.prog C.G.w) C.A C.env (fun _ _ => False) e s') s₁ := by
        refine comp_loop (hform I) T hok hT hi hK R₁ (.inl xD) wD (fun b q => .inr q) (fun b q => .inr (.inl q)) (fun b q z => z.elim (fun z => zu b q (R.xu b z)) fun z => wz b z q) st (keeps_get K _ _ hD) (ds := ds) ?_ hd hsz fun s' vs' n' U' q1 q2 R' hD' hr' => ?_
        · exact ((hr.avoid (Y := fun b => b ∈ wr) fun a o q e => absurd q (pw a o e)).kept (keeps_get K))
        · exact (k s' vs' n' _ (shape_trans (keeps_shape K) q1) (fun b o p nb e => q2 b o (.inl p) nb (pw b o e) (keeps_get K _ _ e)) (let ⟨sm, R'', hkm⟩ := R'; R.unloop R'' fr hkm) hD' (hr'.sub fun _ q => .inl q))
      refine wpAny_bind (wpAny_runOwn (codeAny_compStart_at hg go (T.self items s₁ _ st go)))
    · exact wpAny_bind (wpAny_standAt (wpAny_bind (wpAny_of_eq (hs x) (wpAny_bind (wpAny_holding h₁)))))
  · cases hd
/-- a loop of a comprehension with all that it runs -/
noncomputable def LB (C : Cx) (elt : Expr) (gens : List Comprehension) (scope : Scope) (pos : Pos) (depth : Nat) (target iter : Expr) (ifs : List Expr) (okT : Expr → Bool) (g : St → D → Option St) (mt : Ft) (mb : Fk) : Prop :=
  gens[depth]? = some ⟨target, iter, ifs, 0⟩ ∧ okT target = true ∧ TG C target g ∧ ST C (testsT ifs C.env) mt ∧ ∀ B, ∃ K, SK C B K mb ∧
    ∀ I, compTurn (.ListComp elt gens scope pos) depth (.ref I) (.ref B) C.env = turnForm target ifs iter.pos (.ref I) C.env K (again (.compLoop (.ListComp elt gens scope pos) depth (.ref I) (.ref B) C.env))
theorem LB_last {C : Cx} {elt : Expr} {gens : List Comprehension} {scope : Scope} {pos : Pos} {depth : Nat} {target iter : Expr} {ifs : List Expr} {okT : Expr → Bool} {g : St → D → Option St} {mt : Ft} {m : Fe}
    (hok : okT target = true) (hT : TG C target g) (hi : ST C (testsT ifs C.env) mt) (he : SE C (eval elt C.env) m) (hg : gens[depth]? = some ⟨target, iter, ifs, 0⟩) (hg' : gens[depth + 1]? = none) :
    LB C elt gens scope pos depth target iter ifs okT g mt (kE m) := by
  refine ⟨hg, hok, hT, hi, fun B => ⟨_, SK_emit he, fun I => ?_⟩⟩
  unfold compTurn turnForm
  dsimp only
  rw [hg]
  simp only [hg']
  rfl
theorem LB_more {C : Cx} {elt : Expr} {gens : List Comprehension} {scope : Scope} {pos : Pos} {depth : Nat} {target iter target' iter' : Expr} {ifs ifs' : List Expr} {okT okT' : Expr → Bool} {g g' : St → D → Option St} {mt mt' : Ft} {mI : Fl} {mb : Fk}
    (hok : okT target = true) (hT : TG C target g) (hi : ST C (testsT ifs C.env) mt) (hI : SI C iter' okT' mI) (h : LB C elt gens scope pos (depth + 1) target' iter' ifs' okT' g' mt' mb) (hg : gens[depth]? = some ⟨target, iter, ifs, 0⟩)
    (hs : ∀ x, foldedSetIterable iter' C.env x = pure x := by intro _; rfl) :
    LB C elt gens scope pos depth target iter ifs okT g mt (kGen mI g' mt' mb) := by
  obtain ⟨hg', hok', hT', hi', hB⟩ := h
  refine ⟨hg, hok, hT, hi, fun B => ?_⟩
  obtain ⟨K, hK, hf⟩ := hB B
  refine ⟨_, SK_gen hg' hf hI hok' hT' hi' hK hs, fun I => ?_⟩
  unfold compTurn turnForm
  dsimp only
  rw [hg]
  simp only [hg']
  rfl
end Pf

namespace Pf
open PySem PySem.Calls PyProof.Rows

/- ---- the frame of a comprehension ---- -/
noncomputable def closeL (cells : List (Str × Addr)) : List (Str × NameKind) → List (Str × Addr) → List (Str × Addr)
  | [], acc => acc
  | (n, k) :: r, acc => if k == .free then closeL cells r ((n, (cells.lookup n).getD 0) :: acc) else closeL cells r acc
theorem closureFor_eq {env : Env} : ∀ (names : List (Str × NameKind)) (acc : List (Str × Addr)), (∀ x ∈ names, x.2 = .free → (env.cells.lookup x.1).isSome = true) →
    (forIn names acc (fun x cs => (match x with
      | (name, kind) => if (kind == .free) = true then (do let c ← cellOf env name; pure (ForInStep.yield ((name, c) :: cs))) else pure (ForInStep.yield cs) : Sem (ForInStep (List (Str × Addr)))))) = pure (closeL env.cells names acc)
  | [], acc, _ => by rw [List.forIn_nil]; rfl
  | (n, k) :: r, acc, h => by
    rw [List.forIn_cons]
    have hr := fun acc => closureFor_eq r acc fun x hx => h x (List.mem_cons_of_mem _ hx)
    by_cases hk : (k == NameKind.free) = true
    · obtain ⟨c, hc⟩ := Option.isSome_iff_exists.mp (h (n, k) List.mem_cons_self (by simpa using hk))
      have e : cellOf env n = pure c := by unfold cellOf; rw [hc]
      simp only [hk, if_true, closeL, e]
      rw [hc]
      exact hr _
    · simp only [hk, closeL]
      exact hr _
theorem closureFor_is {env : Env} {scope : Scope} (h : ∀ x ∈ scope.names, x.2 = .free → (env.cells.lookup x.1).isSome = true) : closureFor scope env = pure (closeL env.cells scope.names []) := by
  have := closureFor_eq (env := env) scope.names [] h
  unfold closureFor
  show ((forIn scope.names [] _ : Sem (List (Str × Addr))) >>= fun cs => pure cs) = _
  refine (congrArg (fun t : Sem (List (Str × Addr)) => t >>= fun cs => pure cs) this).trans ?_
  rfl
theorem cellsFrom_app : ∀ (names : List (Str × NameKind)) (n : Nat) (acc : List (Str × Addr)), cellsFrom n names acc = cellsFrom n names [] ++ acc
  | [], n, acc => rfl
  | (x, k) :: r, n, acc => by
    unfold cellsFrom
    split
    · rw [cellsFrom_app r (n + 1) ((x, n) :: acc), cellsFrom_app r (n + 1) [(x, n)]]; simp
    · exact cellsFrom_app r n acc
theorem lookup_app {α : Type} : ∀ (l m : List (Str × α)) (x : Str), (l ++ m).lookup x = (match l.lookup x with | some c => some c | none => m.lookup x)
  | [], m, x => rfl
  | (k, v) :: r, m, x => by
    simp only [List.cons_append, List.lookup_cons]
    cases x == k
    · exact lookup_app r m x
    · rfl
theorem cellsFrom_some : ∀ (names : List (Str × NameKind)) (n : Nat) (x : Str), (x, NameKind.cell) ∈ names → ∃ c, (cellsFrom n names []).lookup x = some c
  | (y, k) :: r, n, x, h => by
    unfold cellsFrom
    rcases List.mem_cons.mp h with e | h
    · cases e
      simp only [beq_self_eq_true, if_true]
      rw [cellsFrom_app, lookup_app]
      split
      · exact ⟨_, rfl⟩
      · exact ⟨_, by rw [List.lookup_cons, beq_self_eq_true]⟩
    · split
      · rw [cellsFrom_app, lookup_app]
        obtain ⟨c, hc⟩ := cellsFrom_some r (n + 1) x h
        rw [hc]; exact ⟨_, rfl⟩
      · exact cellsFrom_some r n x h
theorem cellsFrom_none : ∀ (names : List (Str × NameKind)) (n : Nat) (x : Str), (x, NameKind.cell) ∉ names → (cellsFrom n names []).lookup x = none
  | [], n, x, _ => rfl
  | (y, k) :: r, n, x, h => by
    unfold cellsFrom
    have hr : (x, NameKind.cell) ∉ r := fun q => h (List.mem_cons_of_mem _ q)
    split
    · rename_i hk
      rw [cellsFrom_app, lookup_app, cellsFrom_none r (n + 1) x hr]
      have : (x == y) = false := by
        rw [beq_eq_false_iff_ne]
        rintro rfl
        have : k = .cell := by simpa using hk
        exact h (this ▸ List.mem_cons_self)
      rw [List.lookup_cons, this]; rfl
    · exact cellsFrom_none r n x hr
theorem closeL_lookup {cells : List (Str × Addr)} : ∀ (names : List (Str × NameKind)) (acc : List (Str × Addr)) (x : Str), (closeL cells names acc).lookup x = if (x, NameKind.free) ∈ names then some ((cells.lookup x).getD 0) else acc.lookup x
  | [], acc, x => by simp [closeL]
  | (y, k) :: r, acc, x => by
    unfold closeL
    by_cases hk : (k == NameKind.free) = true
    · have hk' : k = .free := by simpa using hk
      subst hk'
      rw [if_pos hk, closeL_lookup r _ x]
      by_cases h1 : (x, NameKind.free) ∈ r
      · rw [if_pos h1, if_pos (List.mem_cons_of_mem _ h1)]
      · rw [if_neg h1, List.lookup_cons]
        by_cases e : x = y
        · subst e
          rw [beq_self_eq_true, if_pos List.mem_cons_self]
        · rw [beq_eq_false_iff_ne.mpr e, if_neg]
          intro q
          rcases List.mem_cons.mp q with q | q
          · exact e (by cases q; rfl)
          · exact h1 q
    · rw [if_neg hk, closeL_lookup r acc x]
      have : (x, NameKind.free) ∈ (y, k) :: r ↔ (x, NameKind.free) ∈ r := by
        constructor
        · intro q
          rcases List.mem_cons.mp q with q | q
          · cases q; exact absurd rfl hk
          · exact q
        · exact List.mem_cons_of_mem _
      simp only [this]
theorem closeL_mem {cells : List (Str × Addr)} : ∀ (names : List (Str × NameKind)) (acc : List (Str × Addr)) (p : Str × Addr), p ∈ closeL cells names acc → p ∈ acc ∨ ((p.1, NameKind.free) ∈ names ∧ p.2 = (cells.lookup p.1).getD 0)
  | [], acc, p, h => .inl h
  | (y, k) :: r, acc, p, h => by
    unfold closeL at h
    split at h
    · rename_i hk
      have hk' : k = .free := by simpa using hk
      subst hk'
      rcases closeL_mem r _ p h with h | ⟨h1, h2⟩
      · rcases List.mem_cons.mp h with e | h
        · subst e; exact .inr ⟨List.mem_cons_self, rfl⟩
        · exact .inl h
      · exact .inr ⟨List.mem_cons_of_mem _ h1, h2⟩
    · rcases closeL_mem r acc p h with h | ⟨h1, h2⟩
      · exact .inl h
      · exact .inr ⟨List.mem_cons_of_mem _ h1, h2⟩
theorem lookup_mapk {g : Str → NameKind → NameKind} : ∀ (l : List (Str × NameKind)) (x : Str), (l.map fun (n, k) => (n, g n k)).lookup x = (l.lookup x).map (g x)
  | [], x => rfl
  | (n, k) :: r, x => by
    simp only [List.map_cons, List.lookup_cons]
    cases h : x == n
    · exact lookup_mapk r x
    · have : x = n := by simpa using h
      subst this; rfl
theorem lookup_mem {α : Type} : ∀ {l : List (Str × α)} {x : Str} {k : α}, l.lookup x = some k → (x, k) ∈ l := fun h => mem_of_lookup h
theorem nodup_lookup {α : Type} : ∀ {l : List (Str × α)}, (l.map (·.1)).Nodup → ∀ {x : Str} {k : α}, (x, k) ∈ l → l.lookup x = some k
  | (n, k) :: r, hn, x, k', h => by
    simp only [List.map_cons, List.nodup_cons] at hn
    rw [List.lookup_cons]
    rcases List.mem_cons.mp h with e | h2
    · cases e; rw [beq_self_eq_true]
    · have : (x == n) = false := by
        rw [beq_eq_false_iff_ne]
        intro e
        exact hn.1 (e ▸ List.mem_map_of_mem (f := Prod.fst) h2)
      rw [this]; exact nodup_lookup hn.2 h2

noncomputable def relS (scope es : Scope) : Scope := { scope with names := scope.names.map fun (n, k) => if (k == .free && es.kind == .function && es.names.lookup n == some .cell) then (n, .cell) else (n, k) }
noncomputable def relK (es : Scope) (n : Str) (k : NameKind) : NameKind := if (k == .free && es.kind == .function && es.names.lookup n == some .cell) = true then .cell else k
theorem relS_names (scope es : Scope) : (relS scope es).names = scope.names.map fun (n, k) => (n, relK es n k) := by
  unfold relS relK
  dsimp only
  congr 1
  funext ⟨n, k⟩
  split <;> rfl
noncomputable def cEnv (env : Env) (scope : Scope) (L : Addr) : Env := compEnvC scope (cellsFrom (L + 1) scope.names (closeL env.cells scope.names [])) L env
theorem cEnv_scope (env : Env) (scope : Scope) (L : Addr) : (cEnv env scope L).scope = relS scope env.scope := rfl
theorem cEnv_kind (env : Env) (scope : Scope) (L : Addr) (x : Str) : (cEnv env scope L).kindOf x = (scope.names.lookup x).map (relK env.scope x) := by
  show (relS scope env.scope).names.lookup x = _
  rw [relS_names, lookup_mapk]
@[reducible] noncomputable def cCx (C : Cx) (scope : Scope) (L : Addr) (names : List Str) (ro : Nat) : Cx := { G := C.G, A := C.A, env := cEnv C.env scope L, names := names, ro := ro, lv := C.lv, pin := names.length, fx := fun _ => none }

noncomputable def cChk (scope es : Scope) (cn names : List Str) (ro : Nat) (fr : List Nat) : Bool :=
  decide (scope.kind = .function) && decide names.Nodup && names.all (fun x => x != ("__debug__" : Str) && x != ("__classdict__" : Str)) && decide (names.length = ro + fr.length) &&
  (names.take ro).all (fun x => decide (scope.names.lookup x = some .local) || decide (scope.names.lookup x = some .cell)) &&
  ((names.drop ro).zip fr).all (fun p => decide (cn[p.2]? = some p.1) && decide (es.names.lookup p.1 ≠ some .local) && decide (scope.names.lookup p.1 = some .free)) &&
  scope.names.all (fun p => decide (p.2 ≠ .free) || (names.drop ro).contains p.1) && decide (scope.names.map (·.1)).Nodup

structure CChk (scope es : Scope) (cn names : List Str) (ro : Nat) (fr : List Nat) : Prop where
  kind : scope.kind = .function
  nodup : names.Nodup
  dbg : ∀ x ∈ names, (x == ("__debug__" : Str)) = false ∧ (x == ("__classdict__" : Str)) = false
  len : names.length = ro + fr.length
  own : ∀ (i : Nat) x, i < ro → names[i]? = some x → scope.names.lookup x = some .local ∨ scope.names.lookup x = some .cell
  free : ∀ (i j : Nat) x, names[ro + i]? = some x → fr[i]? = some j → cn[j]? = some x ∧ es.names.lookup x ≠ some .local ∧ scope.names.lookup x = some .free
  all : ∀ x, (x, NameKind.free) ∈ scope.names → x ∈ names.drop ro
  keys : (scope.names.map (·.1)).Nodup
theorem cChk_ok {scope es : Scope} {cn names : List Str} {ro : Nat} {fr : List Nat} (h : cChk scope es cn names ro fr = true) : CChk scope es cn names ro fr := by
  simp only [cChk, Bool.and_eq_true, decide_eq_true_eq, List.all_eq_true, Bool.or_eq_true, List.contains_iff_mem, bne_iff_ne, ne_eq] at h
  obtain ⟨⟨⟨⟨⟨⟨⟨h1, h2⟩, h3⟩, h4⟩, h5⟩, h6⟩, h7⟩, h8⟩ := h
  refine ⟨h1, h2, fun x hx => ⟨by simpa using (h3 x hx).1, by simpa using (h3 x hx).2⟩, h4, fun i x hi hx => ?_, fun i j x hx hj => ?_, fun x hx => ?_, h8⟩
  · exact h5 x (List.mem_of_getElem? (by rw [List.getElem?_take, if_pos hi]; exact hx))
  · have : ((names.drop ro).zip fr)[i]? = some (x, j) := by
      rw [List.getElem?_zip_eq_some]
      exact ⟨by rw [List.getElem?_drop]; exact hx, hj⟩
    have := h6 (x, j) (List.mem_of_getElem? this)
    exact ⟨this.1.1, this.1.2, this.2⟩
  · rcases h7 (x, .free) hx with h | h
    · exact absurd rfl h
    · exact h
end Pf

namespace Pf
open PySem PySem.Calls PyProof.Rows

noncomputable def pickV (σ : St) (i : Nat) : Slot := match σ[i]? with | some (.val d) => .val d | _ => .un
noncomputable def cInit (σ : St) (ro : Nat) (fr : List Nat) : St := List.replicate ro .un ++ fr.map (pickV σ)

theorem cells_split {names : List (Str × NameKind)} {n : Nat} {cl : List (Str × Addr)} {x : Str} {c : Addr} (h : (cellsFrom n names cl).lookup x = some c) : (cellsFrom n names []).lookup x = some c ∨ ((cellsFrom n names []).lookup x = none ∧ cl.lookup x = some c) := by
  rw [cellsFrom_app, lookup_app] at h
  split at h
  · rename_i c' e; cases h; exact .inl e
  · rename_i e; exact .inr ⟨e, h⟩

theorem Rel.comp {C : Cx} (O : C.Ok) {X P U : AS} {σ : St} {s s₂ s₄ : Shared} (R : Rel C X P U σ s) (k2 : Keeps s s₂) {wr : List Addr} (fr : ∀ b ∈ wr, s.heap.get? b = none) (wl : ∀ b ∈ wr, ∃ o, s₂.heap.get? b = some o)
    {B L : Addr} (hB : s₂.heap.get? B = none) (hBL : B < L) (hL : ∀ b o, s₂.heap.get? b = some o → b < L) (k4 : ∀ b o, s₂.heap.get? b = some o → s₄.heap.get? b = some o) (hB4 : ∃ o, s₄.heap.get? B = some o)
    {scope : Scope} {names : List Str} {ro : Nat} {fi : List Nat} (ns : s₄.heap.Ns L (fun _ => none)) (ck : CellsOk s₄.heap (L + 1) (cellsFrom (L + 1) scope.names [])) (H : CChk scope C.env.scope C.names names ro fi) :
    (cCx C scope L names ro).Ok ∧ Rel (cCx C scope L names ro) (fun b => U b ∨ b = B ∨ b ∈ wr) (fun b => (∃ o, s₂.heap.get? b = some o) ∨ b = B) (fun b => U b ∨ b = B ∨ b ∈ wr) (cInit σ ro fi) s₄ := by
  obtain ⟨ρ, V⟩ := R.vars
  have kg := keeps_get k2
  -- the names that it only reads
  have fget : ∀ (i : Nat) x, names[i]? = some x → ¬ i < ro → ∃ j, fi[i - ro]? = some j ∧ C.names[j]? = some x ∧ C.env.kindOf x ≠ some .local ∧ scope.names.lookup x = some .free := fun i x hx hi => by
    have hlt := (List.getElem?_eq_some_iff.mp hx).1
    rw [H.len] at hlt
    have hj : i - ro < fi.length := by omega
    have e : ro + (i - ro) = i := by omega
    obtain ⟨q1, q2, q3⟩ := H.free (i - ro) _ x (by rw [e]; exact hx) (List.getElem?_eq_getElem hj)
    exact ⟨_, List.getElem?_eq_getElem hj, q1, q2, q3⟩
  have fall : ∀ x, (x, NameKind.free) ∈ scope.names → ∃ j c, C.names[j]? = some x ∧ C.env.kindOf x ≠ some .local ∧ C.env.cells.lookup x = some c := fun x hx => by
    have hm := H.all x hx
    obtain ⟨i, hi⟩ := List.getElem?_of_mem hm
    rw [List.getElem?_drop] at hi
    obtain ⟨j, _, h1, h2, _⟩ := fget (ro + i) x hi (by omega)
    rcases (O.var x (List.mem_of_getElem? h1)).2.2 with h | ⟨_, c, hc⟩
    · exact absurd h h2
    · exact ⟨j, c, h1, h2, hc⟩
  have kind_at : ∀ x k, scope.names.lookup x = some k → (cCx C scope L names ro).env.kindOf x = some (relK C.env.scope x k) := fun x k e => by
    show (cEnv C.env scope L).kindOf x = _
    rw [cEnv_kind, e]; rfl
  have rl : ∀ x, relK C.env.scope x .local = .local := fun x => by unfold relK; simp
  have rc : ∀ x, relK C.env.scope x .cell = .cell := fun x => by unfold relK; simp
  have rf : ∀ x, relK C.env.scope x .free = .cell ∨ relK C.env.scope x .free = .free := fun x => by unfold relK; split <;> simp
  -- the cells
  have own_cell : ∀ x, scope.names.lookup x = some .cell → ∃ c, (cCx C scope L names ro).env.cells.lookup x = some c ∧ s₄.heap.IsCell c none ∧ L + 1 ≤ c := fun x hx => by
    obtain ⟨c, hc⟩ := cellsFrom_some scope.names (L + 1) x (lookup_mem hx)
    refine ⟨c, ?_, ck.empty x c (lookup_mem hc)⟩
    show (cellsFrom (L + 1) scope.names _).lookup x = _
    rw [cellsFrom_app, lookup_app, hc]
  have free_cell : ∀ x, scope.names.lookup x = some .free → ∃ j c, C.names[j]? = some x ∧ C.env.kindOf x ≠ some .local ∧ C.env.cells.lookup x = some c ∧ (cCx C scope L names ro).env.cells.lookup x = some c := fun x hx => by
    obtain ⟨j, c, h1, h2, h3⟩ := fall x (lookup_mem hx)
    refine ⟨j, c, h1, h2, h3, ?_⟩
    show (cellsFrom (L + 1) scope.names _).lookup x = _
    rw [cellsFrom_app, lookup_app, cellsFrom_none _ _ _ (fun q => by rw [nodup_lookup H.keys q] at hx; cases hx), closeL_lookup, if_pos (lookup_mem hx), h3]
    rfl
  have old_cell : ∀ x c, C.env.kindOf x ≠ some .local → (∃ j, C.names[j]? = some x) → C.env.cells.lookup x = some c → ∃ o, s₂.heap.get? c = some o ∧ o.data = .cell (ρ x) := fun x c hk hj hc => by
    obtain ⟨j, hj⟩ := hj
    obtain ⟨o, ho, hd⟩ := V.fr.cell x c (List.mem_of_getElem? hj) hk hc
    exact ⟨o, kg _ _ ho, hd⟩
  have cl_of : ∀ x c, (closeL C.env.cells scope.names []).lookup x = some c → (x, NameKind.free) ∈ scope.names ∧ C.env.cells.lookup x = some c ∧ c < L := fun x c h => by
    rw [closeL_lookup] at h
    split at h
    · rename_i hm
      obtain ⟨j, c', h1, h2, h3⟩ := fall x hm
      rw [h3] at h
      cases h
      obtain ⟨o, ho, _⟩ := old_cell x c' h2 ⟨j, h1⟩ h3
      exact ⟨hm, h3, hL _ _ ho⟩
    · cases h
  have ok : (cCx C scope L names ro).Ok := by
    refine ⟨O.g, H.kind, O.glob, O.blt, O.hd, O.room, (by show ro ≤ names.length; rw [H.len]; omega), H.nodup, fun x hx => ⟨(H.dbg x hx).1, (H.dbg x hx).2, ?_⟩, fun i x hi hx => ?_, fun x y c hx hy => ?_⟩
    · obtain ⟨i, hi⟩ := List.getElem?_of_mem hx
      by_cases hro : i < ro
      · rcases H.own i x hro hi with h | h
        · exact .inl ((kind_at x _ h).trans (by rw [rl]))
        · obtain ⟨c, hc, _⟩ := own_cell x h
          exact .inr ⟨.inl ((kind_at x _ h).trans (by rw [rc])), c, hc⟩
      · obtain ⟨j, _, h1, h2, h3⟩ := fget i x hi hro
        obtain ⟨_, c, _, _, _, hc⟩ := free_cell x h3
        refine .inr ⟨?_, c, hc⟩
        rw [kind_at x _ h3]
        exact (rf x).imp (congrArg some) (congrArg some)
    · rcases H.own i x hi hx with h | h
      · rw [kind_at x _ h, rl]; simp
      · rw [kind_at x _ h, rc]; simp
    · have hx : (cellsFrom (L + 1) scope.names (closeL C.env.cells scope.names [])).lookup x = some c := hx
      have hy : (cellsFrom (L + 1) scope.names (closeL C.env.cells scope.names [])).lookup y = some c := hy
      rcases cells_split hx with h1 | ⟨_, h1⟩ <;> rcases cells_split hy with h2 | ⟨_, h2⟩
      · exact name_of_addr ck.apart (lookup_mem h1) (lookup_mem h2)
      · have q1 := (ck.empty x c (lookup_mem h1)).2
        have q2 := (cl_of y c h2).2.2
        exact absurd q1 (Nat.not_le_of_lt (Nat.lt_succ_of_lt q2))
      · have q1 := (ck.empty y c (lookup_mem h2)).2
        have q2 := (cl_of x c h1).2.2
        exact absurd q1 (Nat.not_le_of_lt (Nat.lt_succ_of_lt q2))
      · exact O.apart x y c (cl_of x c h1).2.1 (cl_of y c h2).2.1
  refine ⟨ok, ?_⟩
  have nlive : ∀ b, L ≤ b → s₂.heap.get? b = none := fun b q => by
    cases e : s₂.heap.get? b with
    | none => rfl
    | some o => exact absurd (hL b o e) (Nat.not_lt.mpr q)
  have notP : ∀ b, L ≤ b → ¬ ((∃ o, s₂.heap.get? b = some o) ∨ b = B) := fun b q z => by
    rcases z with ⟨o, e⟩ | rfl
    · rw [nlive b q] at e; cases e
    · exact absurd hBL (Nat.not_lt.mpr q)
  have notX : ∀ b, L ≤ b → ¬ (U b ∨ b = B ∨ b ∈ wr) := fun b q z => by
    rcases z with z | rfl | z
    · obtain ⟨o, e⟩ := R.ul b z
      exact notP b q (.inl ⟨o, kg _ _ e⟩)
    · exact absurd hBL (Nat.not_lt.mpr q)
    · exact notP b q (.inl (wl b z))
  have nw : ∀ b o, s.heap.get? b = some o → b ∉ wr := fun b o e q => not_live' e (fr b q)
  have nB : ∀ b o, s.heap.get? b = some o → b ≠ B := fun b o e q => by rw [q] at e; rw [kg _ _ e] at hB; cases hB
  have cell_cases : ∀ (i : Nat) x c, names[i]? = some x → (cCx C scope L names ro).env.kindOf x ≠ some .local → (cCx C scope L names ro).env.cells.lookup x = some c →
      (i < ro ∧ s₄.heap.IsCell c none ∧ L ≤ c) ∨ (¬ i < ro ∧ ∃ j, C.names[j]? = some x ∧ C.env.kindOf x ≠ some .local ∧ C.env.cells.lookup x = some c) := fun i x c hx hk hc => by
    by_cases hi : i < ro
    · rcases H.own i x hi hx with h | h
      · exact absurd ((kind_at x _ h).trans (by rw [rl])) hk
      · obtain ⟨c', hc', q1, q2⟩ := own_cell x h
        have e : c' = c := Option.some.inj (hc'.symm.trans hc)
        subst e
        exact .inl ⟨hi, q1, Nat.le_of_succ_le q2⟩
    · obtain ⟨j, _, h1, h2, h3⟩ := fget i x hx hi
      obtain ⟨_, c', _, _, h4, hc'⟩ := free_cell x h3
      have e : c' = c := Option.some.inj (hc'.symm.trans hc)
      subst e
      exact .inr ⟨hi, j, h1, h2, h4⟩
  refine ⟨fun b o e => ?_, fun _ q => q, fun b q => ?_, fun b q => ?_, fun b q => ?_, fun b q => .inl q, notP L (Nat.le_refl _), fun i x c hi hx hk hc => ?_, fun i x c hx hk hc => ?_, ?_, fun x => if x ∈ names.drop ro then ρ x else none, ?_, fun i x sl hx hs => ?_, fun i j x y ds es a hx hy hi hj _ _ => ?_, fun i x hi hx => ?_⟩
  · obtain ⟨q1, q2, q3⟩ := R.base b o e
    refine ⟨k4 _ _ (kg _ _ q1), .inl ⟨o, kg _ _ q1⟩, ?_⟩
    rintro (q | q | q)
    · exact (R.pu b q).elim q3 fun z => z q2
    · exact nB b o q1 q
    · exact nw b o q1 q
  · rcases q with q | q | q
    · obtain ⟨o, e⟩ := R.ul b q; exact .inl ⟨o, kg _ _ e⟩
    · exact .inr q
    · exact .inl (wl b q)
  · rcases q with q | q | q
    · obtain ⟨o, e⟩ := R.ul b q; exact ⟨o, k4 _ _ (kg _ _ e)⟩
    · exact q ▸ hB4
    · obtain ⟨o, e⟩ := wl b q; exact ⟨o, k4 _ _ e⟩
  · rcases q with ⟨o, e⟩ | q
    · exact ⟨o, k4 _ _ e⟩
    · exact q ▸ hB4
  · rcases cell_cases i x c hx hk hc with ⟨_, _, q⟩ | ⟨q, _⟩
    · exact notP c q
    · exact absurd hi q
  · rcases cell_cases i x c hx hk hc with ⟨_, _, q⟩ | ⟨_, j, h1, h2, h3⟩
    · exact notX c q
    · obtain ⟨o, ho, _⟩ := V.fr.cell x c (List.mem_of_getElem? h1) h2 h3
      rintro (q | q | q)
      · exact R.xC j x c h1 h2 h3 q
      · exact nB c o ho q
      · exact nw c o ho q
  · show (cInit σ ro fi).length = names.length
    simp [cInit, H.len]
  · refine ⟨⟨_, ns, fun x hx => ?_⟩, fun x c hm hk hc => ?_⟩
    · split
      · rename_i hm
        obtain ⟨i, hi⟩ := List.getElem?_of_mem hm
        rw [List.getElem?_drop] at hi
        obtain ⟨j, _, _, _, h3⟩ := fget (ro + i) x hi (by omega)
        rw [kind_at x _ h3] at hx
        rcases rf x with e | e <;> rw [e] at hx <;> cases hx
      · rfl
    · obtain ⟨i, hi⟩ := List.getElem?_of_mem hm
      rcases cell_cases i x c hi hk hc with ⟨q, hcell, _⟩ | ⟨q, j, h1, h2, h3⟩
      · have : x ∉ names.drop ro := fun hm' => by
          obtain ⟨i', hi'⟩ := List.getElem?_of_mem hm'
          rw [List.getElem?_drop] at hi'
          have := idx_inj H.nodup hi hi'
          omega
        show s₄.heap.IsCell c (if x ∈ names.drop ro then ρ x else none)
        rw [if_neg this]; exact hcell
      · have : x ∈ names.drop ro := by
          refine List.mem_of_getElem? (i := i - ro) ?_
          rw [List.getElem?_drop, show ro + (i - ro) = i by omega]; exact hi
        show s₄.heap.IsCell c (if x ∈ names.drop ro then ρ x else none)
        rw [if_pos this]
        obtain ⟨o, ho, hd⟩ := old_cell x c h2 ⟨j, h1⟩ h3
        exact ⟨o, k4 _ _ ho, hd⟩
  · unfold cInit at hs
    by_cases hi : i < ro
    · rw [List.getElem?_append_left (by simpa using hi), List.getElem?_replicate, if_pos hi] at hs
      cases hs; trivial
    · rw [List.getElem?_append_right (by simpa using hi), List.length_replicate, List.getElem?_map] at hs
      obtain ⟨j, hj, h1, h2, h3⟩ := fget i x hx hi
      rw [hj] at hs
      simp only [Option.map_some, Option.some.injEq] at hs
      subst hs
      unfold pickV
      split
      · rename_i d hd
        obtain ⟨v, q1, q2⟩ := V.slot j x _ h1 hd
        have : x ∈ names.drop ro := by
          refine List.mem_of_getElem? (i := i - ro) ?_
          rw [List.getElem?_drop, show ro + (i - ro) = i by omega]; exact hx
        refine ⟨v, (if_pos this).trans q1, ?_⟩
        exact (Rd.avoid (Y := fun b => b = B ∨ b ∈ wr) (fun b o q e => q.elim (fun q => absurd q (nB b o e)) fun q => absurd q (nw b o e)) q2).kept fun b o e => k4 _ _ (kg _ _ e)
      · trivial
  · exfalso
    unfold cInit at hi
    by_cases hro : i < ro
    · rw [List.getElem?_append_left (by simpa using hro), List.getElem?_replicate, if_pos hro] at hi
      cases hi
    · rw [List.getElem?_append_right (by simpa using hro), List.getElem?_map] at hi
      cases e : fi[i - (List.replicate ro Slot.un).length]? with
      | none => rw [e] at hi; cases hi
      | some j =>
        rw [e] at hi
        simp only [Option.map_some, Option.some.injEq] at hi
        unfold pickV at hi
        split at hi <;> cases hi
  · have := (List.getElem?_eq_some_iff.mp hx).1
    have hi : names.length ≤ i := hi
    have hx : i < names.length := this
    omega
end Pf

namespace Pf
open PySem PySem.Calls PyProof.Rows

theorem wp_newEnvC {M : Model} {A : Around} {E : Value → Shared → Prop} {s : Shared} {scope : Scope} {env : Env} {cl : List (Str × Addr)} {Q : Env → Shared → Prop}
    (h : Q (newEnv scope s.heap.objs.size env.globals (cellsFrom (s.heap.objs.size + 1) scope.names cl) env.qual none .none (some env) builtinsNs) { s with heap := pushCells (s.heap.push { cls := .type "dict", data := .dict #[] }) scope.names }) :
    wpAny M A (newFunctionEnv scope env.globals cl [] env.qual none .none (some env)) Q E s := by
  simp only [newFunctionEnv, Option.isSome_some, if_true]
  refine wpAny_bind (wpAny_alloc ?_)
  refine wpAny_bind (wpAny_layCells _ (fun name kind cells => by cases hkc : kind == NameKind.cell <;> simp [hkc]) _ _ _ _ ?_)
  refine wpAny_bind ?_
  rw [List.forIn_nil]
  rw [show ({ s with heap := s.heap.push { cls := .type "dict", data := .dict #[] } } : Shared).heap.objs.size = s.heap.objs.size + 1 from Heap.size_push ..]
  exact wpAny_pure (wpAny_pure h)

theorem comp_tail {C : Cx} (O : C.Ok) {elt target iter : Expr} {ifs : List Expr} {rest : List Comprehension} {scope : Scope} {pos : Pos} {okT : Expr → Bool} {g : St → D → Option St} {mt : Ft} {mb : Fk} {names : List Str} {ro : Nat} {fi : List Nat}
    (H : CChk scope C.env.scope C.names names ro fi)
    (hL : ∀ L, (cCx C scope L names ro).Ok → LB (cCx C scope L names ro) elt (⟨target, iter, ifs, 0⟩ :: rest) scope pos 0 target iter ifs okT g mt mb)
    {X P U : AS} {σ σ' : St} {s : Shared} (R : Rel C X P U σ s) {items es : List D} (hc : cLoop g mt mb items (cInit σ ro fi) = some (σ', es)) (hsz : es.length ≤ 4096) {RR : Value → Addr → Result → Shared → Prop}
    {I : Addr} {wr : List Addr} {Z : AS} {Sta : List D → Heap → Prop} {Mid : Value → List D → Heap → Prop} {s₂ : Shared} (K : Keeps s s₂) (fr : ∀ b ∈ wr, s.heap.get? b = none) (wz : ∀ b ∈ wr, ¬ Z b) (zl : ∀ b, Z b → ∃ o, s₂.heap.get? b = some o ∧ Sq o) (zu : ∀ b, Z b → ¬ U b) (T : It C.G C.A Z I wr okT Sta Mid) (st : Sta items s₂.heap)
    (hRR : ∀ B L s' vs n m', s.heap.get? B = none → s.heap.get? L = none → B ≠ L → Keeps s s' → s'.heap.Ns L m' → s'.heap.get? B = some (lobj vs n) → Rds (fun b => U b ∨ b = B) s'.heap vs.toList es → RR (.ref B) L (.ok .next) s') :
    W C.G C.A (newList []) (fun acc s₃ => W C.G C.A (newFunctionEnv scope C.env.globals (closeL C.env.cells scope.names []) [] C.env.qual none .none (some C.env)) (fun cenv s₄ =>
      codeAny (model C.G.prog C.G.w) C.A (.compStart (.ListComp elt (⟨target, iter, ifs, 0⟩ :: rest) scope pos) 0 (.ref I) acc { cenv with scope := relabel scope C.env }) (RR acc cenv.locals) s₄) s₃) s₂ := by
  refine wpAny_newList ?_ (by decide)
  refine wp_newEnvC ?_
  have hBL : s₂.heap.objs.size < (s₂.heap.push { cls := .type "list", data := .seq ([] : List Value).toArray }).objs.size := by rw [Heap.size_push]; exact Nat.lt_succ_self _
  dsimp only
  generalize hH3 : s₂.heap.push { cls := .type "list", data := .seq ([] : List Value).toArray } = H3 at hBL ⊢
  have hB : s₂.heap.get? s₂.heap.objs.size = none := by
    cases e : s₂.heap.get? s₂.heap.objs.size with
    | none => rfl
    | some o => exact absurd (Heap.lt_size e) (Nat.lt_irrefl _)
  have k3 : ∀ b o, s₂.heap.get? b = some o → H3.get? b = some o := fun b o e => hH3 ▸ Heap.get?_push_of_some _ e
  have hB3 : H3.get? s₂.heap.objs.size = some (lobj #[] 0) := by rw [← hH3]; exact Heap.get?_push_size _ rfl
  have k4 : ∀ b o, H3.get? b = some o → (pushCells (H3.push { cls := .type "dict", data := .dict #[] }) scope.names).get? b = some o := fun b o e => pushCells_keeps _ _ b o (Heap.get?_push_of_some _ e)
  have ck := cellsFrom_ok scope.names (H3.push { cls := .type "dict", data := .dict #[] }) (H3.objs.size + 1) [] ⟨fun _ _ hm => (nomatch hm), List.Pairwise.nil⟩ (by rw [Heap.size_push]; exact Nat.le_refl _)
  rw [Heap.size_push] at ck
  have ns : (pushCells (H3.push { cls := .type "dict", data := .dict #[] }) scope.names).Ns H3.objs.size (fun _ => none) := (Heap.Ns.new H3 (.type "dict")).keeps (pushCells_keeps _ _)
  generalize pushCells (H3.push { cls := .type "dict", data := .dict #[] }) scope.names = H4 at k4 ck ns ⊢
  obtain ⟨O', R'⟩ := R.comp (s₂ := s₂) (s₄ := { s₂ with heap := H4 }) O K fr (T.alive items s₂.heap st) (B := s₂.heap.objs.size) (L := H3.objs.size) hB hBL (fun b o e => Nat.lt_trans (Heap.lt_size e) hBL) (fun b o e => k4 _ _ (k3 _ _ e)) ⟨_, k4 _ _ hB3⟩ ns ck H
  have wl := T.alive items s₂.heap st
  obtain ⟨_, hok, hT, hi, hB'⟩ := hL H3.objs.size O'
  obtain ⟨KK, hK, hf⟩ := hB' s₂.heap.objs.size
  have nw : ∀ b o, s.heap.get? b = some o → b ∉ wr := fun b o e q => not_live' e (fr b q)
  have nB : ∀ b o, s.heap.get? b = some o → b ≠ s₂.heap.objs.size := fun b o e q => by rw [q] at e; rw [keeps_get K _ _ e] at hB; cases hB
  have hsB : s.heap.get? s₂.heap.objs.size = none := by
    cases e : s.heap.get? s₂.heap.objs.size with
    | none => rfl
    | some o => exact absurd rfl (nB _ o e)
  have hsL : s.heap.get? H3.objs.size = none := by
    cases e : s.heap.get? H3.objs.size with
    | none => rfl
    | some o => exact absurd (Nat.lt_trans (Heap.lt_size (keeps_get K _ _ e)) hBL) (Nat.lt_irrefl _)
  have go : codeAny (model C.G.prog C.G.w) C.A (.compLoop (.ListComp elt (⟨target, iter, ifs, 0⟩ :: rest) scope pos) 0 (.ref I) (.ref s₂.heap.objs.size) (cCx C scope H3.objs.size names ro).env) (RR (.ref s₂.heap.objs.size) H3.objs.size) { s₂ with heap := H4 } := by
    refine comp_loop (C := cCx C scope H3.objs.size names ro) (ds := []) (vs := #[]) (n := 0) (hf I) T hok hT hi hK R' (.inr (.inl rfl)) (fun q => ?_) (fun b q => .inr (.inr q)) (fun b q => ?_) (fun b q z => ?_) (T.frame _ _ _ st fun b o q e => k4 _ _ (k3 _ _ e)) (k4 _ _ hB3) .nil hc (by simp; omega) fun s' vs' n' U' q1 q2 R'' hD' hr' => ?_
    · obtain ⟨o, e⟩ := wl _ q
      rw [hB] at e; cases e
    · obtain ⟨o, e, _⟩ := zl b q; exact .inl ⟨o, e⟩
    · rcases z with z | z | z
      · exact zu b q z
      · obtain ⟨o, e, _⟩ := zl b q
        rw [z, hB] at e; cases e
      · exact wz b z q
    · obtain ⟨sm, R'', hkm⟩ := R''
      obtain ⟨ρ', V'⟩ := R''.vars
      obtain ⟨m', ⟨oL, eL, pL, hoL, rL⟩, _⟩ := V'.fr.ns
      have hn' : s'.heap.Ns H3.objs.size m' := ⟨oL, eL, pL, hkm _ _ (fun q => R''.pL (R''.xp _ (.inr (.inr q)))) hoL, rL⟩
      refine hRR s₂.heap.objs.size H3.objs.size s' vs' n' m' hsB hsL (Nat.ne_of_lt hBL) ?_ hn' hD' (Rds.sub (X := fun b => U b ∨ b = s₂.heap.objs.size ∨ b ∈ wr) (by simpa using hr') fun b q => q.elim .inl fun e => .inr (.inl e))
      obtain ⟨h', tk, rfl⟩ := shape_trans (keeps_shape K) (shape_trans ⟨H4, s₂.toks, rfl⟩ q1)
      exact ⟨h', tk, rfl, fun b o e => q2 b o (.inl ⟨o, keeps_get K _ _ e⟩) (nB b o e) (nw b o e) (k4 _ _ (k3 _ _ (keeps_get K _ _ e)))⟩
  exact codeAny_compStart_at (G := C.G) rfl go (T.self items _ _ (T.frame _ _ _ st fun b o q e => k4 _ _ (k3 _ _ e)) go)
theorem comp_core {C : Cx} (O : C.Ok) {elt target iter : Expr} {ifs : List Expr} {rest : List Comprehension} {scope : Scope} {pos : Pos} {okT : Expr → Bool} {mI : Fl} {g : St → D → Option St} {mt : Ft} {mb : Fk} {names : List Str} {ro : Nat} {fi : List Nat}
    (H : CChk scope C.env.scope C.names names ro fi) (hI : SI C iter okT mI)
    (hL : ∀ L, (cCx C scope L names ro).Ok → LB (cCx C scope L names ro) elt (⟨target, iter, ifs, 0⟩ :: rest) scope pos 0 target iter ifs okT g mt mb)
    {X P U : AS} {σ σ' : St} {s : Shared} (R : Rel C X P U σ s) {items es : List D} (hm : mI σ = some items) (hc : cLoop g mt mb items (cInit σ ro fi) = some (σ', es)) (hsz : es.length ≤ 4096) {RR : Value → Addr → Result → Shared → Prop}
    (hRR : ∀ B L s' vs n m', s.heap.get? B = none → s.heap.get? L = none → B ≠ L → Keeps s s' → s'.heap.Ns L m' → s'.heap.get? B = some (lobj vs n) → Rds (fun b => U b ∨ b = B) s'.heap vs.toList es → RR (.ref B) L (.ok .next) s') :
    W C.G C.A (eval iter C.env) (fun x s₁ => W C.G C.A (pyIter x) (fun it s₂ => W C.G C.A (newList []) (fun acc s₃ => W C.G C.A (newFunctionEnv scope C.env.globals (closeL C.env.cells scope.names []) [] C.env.qual none .none (some C.env)) (fun cenv s₄ =>
      codeAny (model C.G.prog C.G.w) C.A (.compStart (.ListComp elt (⟨target, iter, ifs, 0⟩ :: rest) scope pos) 0 it acc { cenv with scope := relabel scope C.env }) (RR acc cenv.locals) s₄) s₃) s₂) s₁) s := by
  refine hI X P U σ s _ R items hm fun I wr Z Sta Mid s₂ K fr wz zl zu T st => ?_
  exact comp_tail O H hL R hc hsz K fr wz zl zu T st hRR

noncomputable def oComp (mI : Fl) (ro : Nat) (fi : List Nat) (g : St → D → Option St) (mt : Ft) (mb : Fk) : Fl := fun σ => match mI σ with
  | some items => (match cLoop g mt mb items (cInit σ ro fi) with
    | some (_, es) => (match short es with | true => some es | false => none)
    | none => none)
  | none => none
theorem free_lookup {C : Cx} (O : C.Ok) {scope : Scope} {names : List Str} {ro : Nat} {fi : List Nat} (H : CChk scope C.env.scope C.names names ro fi) : ∀ x ∈ scope.names, x.2 = .free → (C.env.cells.lookup x.1).isSome = true := by
  rintro ⟨x, k⟩ hx hk
  cases hk
  have hm := H.all x hx
  obtain ⟨i, hi⟩ := List.getElem?_of_mem hm
  rw [List.getElem?_drop] at hi
  have hlt := (List.getElem?_eq_some_iff.mp hi).1
  rw [H.len] at hlt
  have hj : i < fi.length := by omega
  obtain ⟨h1, h2, _⟩ := H.free i _ x hi (List.getElem?_eq_getElem hj)
  rcases (O.var x (List.mem_of_getElem? h1)).2.2 with h | ⟨_, c, hc⟩
  · exact absurd h h2
  · exact Option.isSome_iff_exists.mpr ⟨c, hc⟩
theorem sameBut_keeps {s s' : Shared} {L : Addr} {h' : Heap} (K : Keeps s s') (hL : s.heap.get? L = none) (hs : Heap.SameBut L s'.heap h') : Keeps s { s' with heap := h' } := by
  obtain ⟨h1, tk, rfl, k⟩ := K
  exact ⟨h', tk, rfl, fun b o e => hs.extBut b o (fun q => by rw [q, hL] at e; cases e) (k b o e)⟩
theorem ns_not_sq {h : Heap} {L : Addr} {m : Str → Option Value} (hn : h.Ns L m) {o : Obj} (e : h.get? L = some o) (hs : Sq o) : False := by
  obtain ⟨o', es, ep, ho, hd, _⟩ := hn
  rw [ho] at e
  cases e
  obtain ⟨vs, n, q⟩ := hs
  rcases q with q | q <;> rw [q] at hd <;> cases hd
theorem SO_comp {C : Cx} (O : C.Ok) {elt target iter : Expr} {ifs : List Expr} {rest : List Comprehension} {scope es : Scope} {pos : Pos} {okT : Expr → Bool} {mI : Fl} {g : St → D → Option St} {mt : Ft} {mb : Fk} {cn names : List Str} {ro : Nat} {fi : List Nat}
    (hes : C.env.scope = es) (hcn : C.names = cn) (hchk : cChk scope es cn names ro fi = true) (hI : SI C iter okT mI)
    (hL : ∀ L, (cCx C scope L names ro).Ok → LB (cCx C scope L names ro) elt (⟨target, iter, ifs, 0⟩ :: rest) scope pos 0 target iter ifs okT g mt mb)
    (hs : ∀ x, foldedSetIterable iter C.env x = pure x := by intro _; rfl) :
    SO C (eval (.ListComp elt (⟨target, iter, ifs, 0⟩ :: rest) scope pos) C.env) (oComp mI ro fi g mt mb) := by
  subst hes hcn
  have H := cChk_ok hchk
  intro X P U σ s Q R ds hd k
  unfold oComp at hd
  split at hd
  · rename_i items hm
    split at hd
    · rename_i σ' es hc
      split at hd <;> cases hd
      rename_i hsh
      rw [eval_ListComp]
      refine wpAny_comprehension_free (use := none) (cl := closeL C.env.cells scope.names []) rfl hs (closureFor_is (free_lookup O H)) H.kind (fun x hx hl => nodup_lookup H.keys (hl ▸ hx)) ?_
      refine comp_core (RR := fun acc L r s' => compPost (model C.G.prog C.G.w) C.A (fun _ _ => False) none Q acc L r s') O H hI hL R hm hc (short_le hsh) fun B L s' vs n m' hB hL hBL K hn hg hr => ?_
      refine ⟨m', hn, fun h' hs' => ?_⟩
      refine k B vs n _ (sameBut_keeps K hL hs') hB (hs'.extBut _ _ hBL hg) (hr.quiet fun b o q e => hs'.extBut b o (fun z => ns_not_sq hn (z ▸ e) q) e)
    · cases hd
  · cases hd

/-- a name takes a comprehension of its own line -/
theorem Rel.lessP {C : Cx} {X P P' U : AS} {σ : St} {s : Shared} (R : Rel C X P' U σ s) (hp : ∀ b, P b → P' b) (xp : ∀ b, X b → P b) (base : ∀ b o, C.G.h0.get? b = some o → P b) : Rel C X P U σ s := by
  obtain ⟨ρ, V⟩ := R.vars
  refine ⟨fun b o e => ⟨(R.base b o e).1, base b o e, (R.base b o e).2.2⟩, R.xu, xp, R.ul, fun b q => R.pl b (hp b q), fun b q => (R.pu b q).imp id fun z y => z (hp b y), fun q => R.pL (hp _ q), fun i x c hi hx hk hc q => R.pC i x c hi hx hk hc (hp _ q), R.xC, R.len, ρ, V.fr, fun i x sl hx hs => ?_, V.one, V.fx⟩
  have := V.slot i x sl hx hs
  cases sl with
  | un => trivial
  | val d => exact this
  | own ds => obtain ⟨a, vs, n, g1, g2, g3, g4, g5⟩ := this; exact ⟨a, vs, n, g1, g2, fun q => g3 (hp _ q), g4, g5⟩
end Pf

namespace Pf
open PySem PySem.Calls PyProof.Rows

/-- L: an object that no variable leads to -/
structure Aside (C : Cx) (P U : AS) (h : Heap) (L : Addr) : Prop where
  loc : L ≠ C.env.locals
  cell : ∀ (i : Nat) x c, C.names[i]? = some x → C.env.kindOf x ≠ some .local → C.env.cells.lookup x = some c → c ≠ L
  p : ¬ P L
  u : ¬ U L
  sq : ∀ o, h.get? L = some o → ¬ Sq o
theorem Rel.moreP {C : Cx} {X P U : AS} {σ : St} {s : Shared} {L : Addr} (R : Rel C X P U σ s) (a : Aside C P U s.heap L) (lv : ∃ o, s.heap.get? L = some o) : Rel C X (fun b => P b ∨ b = L) U σ s := by
  obtain ⟨ρ, V⟩ := R.vars
  refine ⟨fun b o e => ⟨(R.base b o e).1, .inl (R.base b o e).2.1, (R.base b o e).2.2⟩, R.xu, fun b q => .inl (R.xp b q), R.ul, fun b q => q.elim (R.pl b) fun e => e ▸ lv, fun b q => (R.pu b q).imp id fun z y => y.elim z fun e => a.u (e ▸ q), fun q => q.elim R.pL fun e => a.loc e.symm,
    fun i x c hi hx hk hc q => q.elim (R.pC i x c hi hx hk hc) (a.cell i x c hx hk hc), R.xC, R.len, ρ, V.fr, fun i x sl hx hs => ?_, V.one, V.fx⟩
  have := V.slot i x sl hx hs
  cases sl with
  | un => trivial
  | val d => exact this
  | own ds => obtain ⟨b, vs, n, g1, g2, g3, g4, g5⟩ := this; exact ⟨b, vs, n, g1, g2, fun q => q.elim g3 fun e => a.u (e ▸ g2), g4, g5⟩
theorem Rel.skip {C : Cx} {X P U : AS} {σ : St} {s s' : Shared} {L : Addr} (R : Rel C X P U σ s) (a : Aside C P U s.heap L) (hk : ∀ b o, b ≠ L → s.heap.get? b = some o → s'.heap.get? b = some o) : Rel C X P U σ s' := by
  obtain ⟨ρ, V⟩ := R.vars
  have kq : ∀ b o, Sq o → s.heap.get? b = some o → s'.heap.get? b = some o := fun b o q e => hk b o (fun z => a.sq o (z ▸ e) q) e
  refine ⟨fun b o e => let ⟨q1, q2, q3⟩ := R.base b o e; ⟨hk b o (fun z => a.p (z ▸ q2)) q1, q2, q3⟩, R.xu, R.xp, fun b q => let ⟨o, e⟩ := R.ul b q; ⟨o, hk b o (fun z => a.u (z ▸ q)) e⟩, fun b q => let ⟨o, e⟩ := R.pl b q; ⟨o, hk b o (fun z => a.p (z ▸ q)) e⟩, R.pu, R.pL, R.pC, R.xC, R.len, ρ, ⟨?_, fun x c hm hx hc => ?_⟩, fun i x sl hx hs => (V.slot i x sl hx hs).quiet kq, V.one, V.fx⟩
  · obtain ⟨m, ⟨o, es, ep, ho, hr⟩, e⟩ := V.fr.ns
    exact ⟨m, ⟨o, es, ep, hk _ _ a.loc.symm ho, hr⟩, e⟩
  · obtain ⟨i, hi⟩ := List.getElem?_of_mem hm
    obtain ⟨o, ho, hd⟩ := V.fr.cell x c hm hx hc
    exact ⟨o, hk _ _ (a.cell i x c hi hx hc) ho, hd⟩
theorem asgComp_end {C : Cx} (O : C.Ok) {i : Nat} {y : Str} {py : Pos} (hx : C.names[i]? = some y) (hi : i < C.ro) {X P U : AS} {σ : St} {s s₁ : Shared} (R : Rel C X P U σ s) {B L : Addr} {vs : Array Value} {n : Nat} {m' : Str → Option Value} {es : List D} {Q : Flow → Shared → Prop}
    (hB : s.heap.get? B = none) (hL : s.heap.get? L = none) (hBL : B ≠ L) (K : Keeps s s₁) (hn : s₁.heap.Ns L m') (hg : s₁.heap.get? B = some (lobj vs n)) (hr : Rds (fun b => U b ∨ b = B) s₁.heap vs.toList es)
    (k : ∀ fl s', Post C X P s (σ.set i (.own es)) none fl s' → Q fl s') : compPost (model C.G.prog C.G.w) C.A (fun _ _ => False) (some (assign (.Name y py) C.env)) (fun _ s' => Q .next s') (.ref B) L (.ok .next) s₁ := by
  show W C.G C.A (assign (.Name y py) C.env (.ref B)) _ s₁
  obtain ⟨ρ, V⟩ := R.vars
  obtain ⟨R₁, V₁⟩ := R.enlarge V K hB hg
  have nP : ¬ P B := fun q => by obtain ⟨o', e⟩ := R.pl B q; rw [hB] at e; cases e
  have as₁ : Aside C P (fun b => U b ∨ b = B) s₁.heap L := by
    refine ⟨fun e => ?_, fun i x c hx hk hc e => ?_, fun q => ?_, fun q => ?_, fun o e q => ns_not_sq hn e q⟩
    · obtain ⟨m, ⟨o, _, _, ho, _⟩, _⟩ := V.fr.ns
      rw [← e, hL] at ho; cases ho
    · obtain ⟨o, ho, _⟩ := V.fr.cell x c (List.mem_of_getElem? hx) hk hc
      rw [e, hL] at ho; cases ho
    · obtain ⟨o, e⟩ := R.pl L q; rw [hL] at e; cases e
    · rcases q with q | q
      · obtain ⟨o, e⟩ := R.ul L q; rw [hL] at e; cases e
      · exact hBL q.symm
  have lvL : ∃ o, s₁.heap.get? L = some o := by obtain ⟨o, _, _, ho, _⟩ := hn; exact ⟨o, ho⟩
  have R₂ := R₁.moreP as₁ lvL
  refine wpAny_assign_Name (st_name O R₂ V₁.fr hi hx fun h' tk qc F => ?_)
  have hn2 : h'.Ns L m' := by obtain ⟨o, es, ep, ho, hr⟩ := hn; exact ⟨o, es, ep, qc.kp _ _ (.inr rfl) ho, hr⟩
  refine ⟨m', hn2, fun h'' hs'' => ?_⟩
  have qc' : QC P s₁.heap h' := ⟨fun b o p e => qc.kp b o (.inl p) e, qc.kq, qc.lv⟩
  have R₃ := (R₁.stored (tk := tk) O V₁ hx hi qc' F (.own es) ⟨B, vs, n, upd_eq, .inr rfl, nP, hg, hr⟩ fun ds' a' e1 e2 j y es hj hy hs e3 => by
    cases e2
    obtain ⟨b, ws, m', g1, g2, g3, g4, g5⟩ := V.slot j y _ hy hs
    rw [e3] at g1
    cases g1
    rw [hB] at g4
    cases g4).1
  have as₂ : Aside C P (fun b => U b ∨ b = B) h' L := ⟨as₁.loc, as₁.cell, as₁.p, as₁.u, fun o e q => ns_not_sq hn2 e q⟩
  have R₄ := R₃.skip (s' := { s₁ with heap := h'', toks := tk }) as₂ fun b o hb e => hs''.extBut b o hb e
  refine k _ _ ⟨shape_trans (keeps_shape K) ⟨h'', tk, rfl⟩, fun b o p e => ?_, rfl, _, R₄⟩
  exact hs''.extBut b o (fun z => as₁.p (z ▸ p)) (qc'.kp b o p (keeps_get K b o e))
theorem SS_asgComp {C : Cx} (O : C.Ok) {elt target iter : Expr} {ifs : List Expr} {rest : List Comprehension} {scope es : Scope} {pos spos py : Pos} {okT : Expr → Bool} {mI : Fl} {g : St → D → Option St} {mt : Ft} {mb : Fk} {cn names : List Str} {ro : Nat} {fi : List Nat} {i : Nat} {y : Str}
    (hx : C.names[i]? = some y) (hi : i < C.ro) (hes : C.env.scope = es) (hcn : C.names = cn) (hchk : cChk scope es cn names ro fi = true) (hI : SI C iter okT mI)
    (hL : ∀ L, (cCx C scope L names ro).Ok → LB (cCx C scope L names ro) elt (⟨target, iter, ifs, 0⟩ :: rest) scope pos 0 target iter ifs okT g mt mb)
    (hsw : swapsWith (.ListComp elt (⟨target, iter, ifs, 0⟩ :: rest) scope pos) (some (.Name y py)) spos.line C.env = pure true)
    (hs : ∀ x, foldedSetIterable iter C.env x = pure x := by intro _; rfl) :
    SS C (exec (.Assign [.Name y py] (.ListComp elt (⟨target, iter, ifs, 0⟩ :: rest) scope pos) spos) C.env) (sAsgO (oComp mI ro fi g mt mb) i) := by
  subst hes hcn
  have H := cChk_ok hchk
  intro X P U σ s Q R σ' r hd k
  unfold sAsgO at hd
  split at hd <;> cases hd
  rename_i ds hd
  unfold oComp at hd
  split at hd
  · rename_i items hm
    split at hd
    · rename_i σ' es hc
      split at hd <;> cases hd
      rename_i hsh
      rw [exec_Assign_Name_used _ _ _ _ hsw]
      refine wpAny_bind (wpAny_standAt (wpAny_bind ?_))
      show wpAny _ C.A (do let _ ← comprehension (.ListComp elt (⟨target, iter, ifs, 0⟩ :: rest) scope pos) scope C.env _ (newList []) false (eval iter C.env) (some (assign (.Name y py) C.env))) _ _ s
      refine wpAny_bind (wpAny_mono (wpAny_comprehension_free (use := some (assign (.Name y py) C.env)) (Q := fun _ s' => Q .next s') (E := fun _ _ => False) (cl := closeL C.env.cells scope.names []) rfl hs (closureFor_is (free_lookup O H)) H.kind (fun x hx hl => nodup_lookup H.keys (hl ▸ hx)) ?_) (fun _ s' hq => wpAny_pure (wpAny_pure hq)) fun _ _ f => f.elim)
      refine comp_core (RR := fun acc L r s' => compPost (model C.G.prog C.G.w) C.A (fun _ _ => False) (some (assign (.Name y py) C.env)) (fun _ s' => Q .next s') acc L r s') O H hI hL R hm hc (short_le hsh) fun B L s₁ vs n m' hB hL hBL K hn hg hr => ?_
      exact asgComp_end O hx hi R hB hL hBL K hn hg hr k
    · cases hd
  · cases hd
end Pf

namespace Pf
open PySem PySem.Calls PyProof.Rows

noncomputable def isNm : Expr → Bool | .Name .. => true | _ => false
noncomputable def isTp : Expr → Bool | .Tuple .. => true | _ => false
noncomputable def isNT : Expr → Bool | .Name .. => true | .Tuple .. => true | _ => false
theorem go_name {t : Expr} {it v : Value} (h : isNm t = true) : letOwnedTupleGo t it v = pure () := by
  cases t <;> first | rfl | cases h

theorem Rds.split {Y : AS} {h : Heap} {vs : Array Value} {i : Nat} {d : D} {ds : List D} (r : Rds Y h (vs.toList.drop i) (d :: ds)) : ∃ v, vs[i]? = some v ∧ Rd Y h v d ∧ Rds Y h (vs.toList.drop (i + 1)) ds := by
  cases e : vs.toList.drop i with
  | nil => rw [e] at r; cases r
  | cons v rest =>
    rw [e] at r
    cases r with
    | cons r1 r2 =>
      have e2 : (vs.toList.drop i)[0]? = some v := by rw [e]; rfl
      have e3 : vs.toList.drop (i + 1) = rest := by rw [← List.drop_drop, e]; rfl
      rw [List.getElem?_drop] at e2
      exact ⟨v, by simpa using e2, r1, by rw [e3]; exact r2⟩
theorem Rds.ended {Y : AS} {h : Heap} {vs : Array Value} {i : Nat} (r : Rds Y h (vs.toList.drop i) []) : vs[i]? = none := by
  have := r.length
  simp at this
  simp
  omega
theorem Rds.z {Z : AS} {h h' : Heap} {vs : List Value} {ds : List D} (r : Rds (fun b => ¬ Z b) h vs ds) (hk : ∀ b o, Z b → h.get? b = some o → h'.get? b = some o) : Rds (fun b => ¬ Z b) h' vs ds := r.mono (fun _ q => q) fun b o q e => hk b o (Classical.not_not.mp q) e
theorem Rd.z {Z : AS} {h h' : Heap} {v : Value} {d : D} (r : Rd (fun b => ¬ Z b) h v d) (hk : ∀ b o, Z b → h.get? b = some o → h'.get? b = some o) : Rd (fun b => ¬ Z b) h' v d := r.mono (fun _ q => q) fun b o q e => hk b o (Classical.not_not.mp q) e
/-- what is read at s avoiding U is read in Z alone -/
noncomputable def ZU (U : AS) (h : Heap) : AS := fun b => (∃ o, h.get? b = some o ∧ Sq o) ∧ ¬ U b
mutual
theorem Rd.toZ {U : AS} {h : Heap} : ∀ {v d}, Rd U h v d → Rd (fun b => ¬ ZU U h b) h v d
  | _, _, .none => .none
  | _, _, .bool b => .bool b
  | _, _, .int i t => .int i t
  | _, _, .list hn hg hs => .list (fun q => q ⟨⟨_, hg, Sq.l _ _⟩, hn⟩) hg hs.toZ
  | _, _, .tuple hn hg hs => .tuple (fun q => q ⟨⟨_, hg, Sq.t _ _⟩, hn⟩) hg hs.toZ
theorem Rds.toZ {U : AS} {h : Heap} : ∀ {v d}, Rds U h v d → Rds (fun b => ¬ ZU U h b) h v d
  | _, _, .nil => .nil
  | _, _, .cons h1 h2 => .cons h1.toZ h2.toZ
end

/- ---- over a list ---- -/
noncomputable def staL (Z : AS) (I ax : Addr) (vs : Array Value) : List D → Heap → Prop := fun ds h => ∃ i n, h.IsListIter I ax i ∧ h.get? ax = some (lobj vs n) ∧ Rds (fun b => ¬ Z b) h (vs.toList.drop i) ds
theorem It_list {G : Gx} {A : Around} (hh : A.handled = none) {Z : AS} {I ax : Addr} {vs : Array Value} (zI : ¬ Z I) (za : Z ax) : It G A Z I [I] isNT (staL Z I ax vs) (fun _ => staL Z I ax vs) := by
  have hne : ax ≠ I := fun e => zI (e ▸ za)
  refine ⟨?_, ?_, ?_, ?_, ?_, ?_, ?_⟩
  · rintro ds h h' ⟨i, n, h1, h2, h3⟩ hk
    exact ⟨i, n, h1.at fun o e => hk I o (.inr (by simp)) e, hk _ _ (.inl za) h2, h3.z fun b o q e => hk b o (.inl q) e⟩
  · rintro ds h ⟨i, n, ⟨o, ho, _⟩, _⟩ b hb
    simp at hb
    exact ⟨o, hb ▸ ho⟩
  · rintro v ds h ⟨i, n, ⟨o, ho, _⟩, _⟩ b hb
    simp at hb
    exact ⟨o, hb ▸ ho⟩
  · rintro d ds s Q ⟨i, n, h1, h2, h3⟩ k
    obtain ⟨v, hv, r1, r2⟩ := h3.split
    refine wpAny_pyNext_list_item h1 (IsList_of h2) hv fun h' hit' hs' => ?_
    have kz : ∀ b o, Z b → s.heap.get? b = some o → h'.get? b = some o := fun b o q e => hs'.extBut b o (fun z => zI (z ▸ q)) e
    exact k v h' s.toks (fun b o hb e => hs'.extBut b o (by simpa using hb) e) (fun U' hU _ => (r1.z kz).sub fun a q => hU a q) ⟨i + 1, n, hit', hs'.extBut _ _ hne h2, r2.z kz⟩
  · rintro t v ds s Q hok hst k
    have hst' := hst
    obtain ⟨i, n, h1, h2, h3⟩ := hst
    have fin : Q () s := by
      have := k s.heap (fun _ _ _ e => e) hst'
      exact this
    cases t <;> try (cases hok)
    · exact wpAny_pure fin
    · cases v <;> try (exact wpAny_pure fin)
      exact wpAny_letOwnedTupleGo_listiter h1 fin
  · rintro s Q ⟨i, n, h1, h2, h3⟩ k
    exact wpAny_pyNext_list_end hh h1 (IsList_of h2) h3.ended fun h' he => k h' s.toks fun b o hb e => he b o (by simpa using hb) e
  · rintro ds s Q ⟨i, n, h1, h2, h3⟩ k
    exact wpAny_pyIter_listiter h1 k
noncomputable def iList (m : Fe) : Fl := fun σ => match m σ with | some (.list ds) => some ds | _ => none
theorem SI_list {C : Cx} (O : C.Ok) {e : Expr} {m : Fe} (h : SE C (eval e C.env) m) : SI C e isNT (iList m) := by
  intro X P U σ s Q R ds hd k
  unfold iList at hd
  split at hd <;> cases hd
  rename_i hm
  refine h X P U σ s _ R _ hm fun v s₁ K r => ?_
  cases r with
  | list hn hg hs =>
    rename_i a vs n
    have hZ := hs.toZ
    refine wpAny_pyIter_list (IsList_of hg) ?_
    have kp : ∀ b o, s₁.heap.get? b = some o → (s₁.heap.push { cls := .type "list_iterator", data := .fields #[.ref a, .int 0 0] }).get? b = some o := fun b o e => Heap.get?_push_of_some _ e
    have za : ZU U s₁.heap a := ⟨⟨_, hg, Sq.l _ _⟩, hn⟩
    have zI : ¬ ZU U s₁.heap s₁.heap.objs.size := fun ⟨⟨o, e, _⟩, _⟩ => by rw [get_size_none] at e; cases e
    refine k s₁.heap.objs.size [s₁.heap.objs.size] (ZU U s₁.heap) _ _ _ (keeps_trans K (keeps_push _ _)) (fun b hb => ?_) (fun b hb => ?_) (fun b q => ?_) (fun b q => q.2) (It_list O.hd zI za (vs := vs)) ⟨0, n, ⟨_, Heap.get?_push_size _ rfl, rfl, rfl⟩, kp _ _ hg, ?_⟩
    · simp at hb
      subst hb
      cases e : s.heap.get? s₁.heap.objs.size with
      | none => rfl
      | some o => exact absurd (keeps_get K _ _ e) (by rw [get_size_none]; simp)
    · simp at hb; subst hb; exact zI
    · obtain ⟨⟨o, e, q⟩, _⟩ := q
      exact ⟨o, kp _ _ e, q⟩
    · simpa using hZ.kept kp

/- ---- over a range ---- -/
noncomputable def rangeL (x step : Int) : Nat → List D
  | 0 => []
  | n + 1 => .int x :: rangeL (x + step) step n
noncomputable def staR (I : Addr) : List D → Heap → Prop := fun ds h => ∃ x step n, IsRangeIter h I x (n : Nat) step ∧ ds = rangeL x step n
theorem It_range {G : Gx} {A : Around} (hh : A.handled = none) {I : Addr} : It G A (fun _ => False) I [I] isNm (staR I) (fun _ => staR I) := by
  refine ⟨?_, ?_, ?_, ?_, ?_, ?_, ?_⟩
  · rintro ds h h' ⟨x, step, n, h1, h2⟩ hk
    exact ⟨x, step, n, hk I _ (.inr (by simp)) h1, h2⟩
  · rintro ds h ⟨x, step, n, h1, h2⟩ b hb
    simp at hb
    exact ⟨_, hb ▸ h1⟩
  · rintro v ds h ⟨x, step, n, h1, h2⟩ b hb
    simp at hb
    exact ⟨_, hb ▸ h1⟩
  · rintro d ds s Q ⟨x, step, n, h1, h2⟩ k
    cases n with
    | zero => cases h2
    | succ n =>
      cases h2
      refine wpAny_pyNext_range_item h1 (by omega) fun h' hit' hs' => ?_
      refine k _ h' (s.toks + 1) (fun b o hb e => hs'.extBut b o (by simpa using hb) e) (fun U' hU _ => .int _ _) ⟨x + step, step, n, ?_, rfl⟩
      have : (((n + 1 : Nat) : Int) - 1) = (n : Int) := by omega
      rw [this] at hit'
      exact hit'
  · rintro t v ds s Q hok hst k
    rw [go_name hok]
    exact wpAny_pure (k s.heap (fun _ _ _ e => e) hst)
  · rintro s Q ⟨x, step, n, h1, h2⟩ k
    cases n with
    | succ n => cases h2
    | zero => exact wpAny_pyNext_range_end hh h1 (by simp) fun h' he => k h' s.toks fun b o hb e => he b o (by simpa using hb) e
  · rintro ds s Q ⟨x, step, n, h1, h2⟩ k
    exact wpAny_pyIter_rangeiter h1 k

/-- a built-in that gives what a loop goes over -/
noncomputable def BlI (G : Gx) (n : Nat) (v : Value) (okT : Expr → Bool) (F : List D → Option (List D)) : Prop :=
  ∀ A U s vs ds items (Q : Value → Shared → Prop), A.handled = none → Room A n → (∀ a, U a → ∃ o, s.heap.get? a = some o) → Rds U s.heap vs ds → F ds = some items →
    (∀ I wr Z Sta Mid s', Keeps s s' → (∀ b ∈ wr, s.heap.get? b = none) → (∀ b ∈ wr, ¬ Z b) → (∀ b, Z b → ∃ o, s'.heap.get? b = some o ∧ Sq o) → (∀ b, Z b → ¬ U b) → It G A Z I wr okT Sta Mid → Sta items s'.heap → Q (.ref I) s') →
    W G A (call v vs) (fun x s₁ => W G A (pyIter x) Q s₁) s
theorem SI_blt {C : Cx} (O : C.Ok) {f : Str} {e : Expr} {es : List Expr} {p pos : Pos} {v : Value} {m : Fl} {okT : Expr → Bool} {F : List D → Option (List D)} (hF : ∀ G n, BlI G n v okT F) (hb : bootBuiltins f = some v) (hv : Bv v) (hm : f ∈ bltNames)
    (hk : C.env.kindOf f = some .globalImplicit) (hl : SL C (e :: es) m) (hd : (f == ("__debug__" : Str)) = false := by decide) (hn : f ≠ "__name__" := by decide) : SI C (.Call (.Name f p) (e :: es) [] pos) okT (bindLO F m) := by
  intro X P U σ s Q R items hd' k
  unfold bindLO at hd'
  split at hd'
  · rename_i ds hm'
    refine wpAny_Call_NameR (ld_blt O R hk hm hb ?_ hd hn)
    refine callWith_bv hv starEach_ne (hl.1 _ _) (hl.2 _ X P U σ s _ R ds hm' fun vs s' K r => ?_)
    refine hF C.G C.lv C.A U s' vs ds items Q O.hd O.room (R.keeps K).ul r hd' fun I wr Z Sta Mid s'' K' fr => k I wr Z Sta Mid s'' (keeps_trans K K') fun b q => ?_
    cases e : s.heap.get? b with
    | none => rfl
    | some o => have := fr b q; rw [keeps_get K _ _ e] at this; cases this
  · cases hd'

noncomputable def rOk (a b c : Int) : Bool := Builtin.Range.small a b c && !PySem.W.Z.eqB c 0 && !Builtin.divisionGoesByPylong (b - a) c && PySem.W.Z.leB 0 (Builtin.Range.rangeSize a b c)
noncomputable def fRange : List D → Option (List D)
  | [.int b] => (match rOk 0 b 1 with | true => some (rangeL 0 1 (Builtin.Range.rangeSize 0 b 1).toNat) | false => none)
  | [.int a, .int b] => (match rOk a b 1 with | true => some (rangeL a 1 (Builtin.Range.rangeSize a b 1).toNat) | false => none)
  | [.int a, .int b, .int c] => (match rOk a b c with | true => some (rangeL a c (Builtin.Range.rangeSize a b c).toNat) | false => none)
  | _ => none
theorem range_out {G : Gx} {A : Around} {U : AS} {s : Shared} {a b c : Int} {t u v : Tok} {Q : Value → Shared → Prop} (hA : A.handled = none) (ok : rOk a b c = true)
    (k : ∀ I wr Z Sta Mid s', Keeps s s' → (∀ b ∈ wr, s.heap.get? b = none) → (∀ b ∈ wr, ¬ Z b) → (∀ b, Z b → ∃ o, s'.heap.get? b = some o ∧ Sq o) → (∀ b, Z b → ¬ U b) → It G A Z I wr isNm Sta Mid → Sta (rangeL a c (Builtin.Range.rangeSize a b c).toNat) s'.heap → Q (.ref I) s') {tk : Nat} {o : Obj} (ho : o = { cls := .type "range", data := .fields #[.int a t, .int b u, .int c v] }) :
    W G A (pyIter (.ref s.heap.objs.size)) Q { s with heap := s.heap.push o, toks := tk } := by
  subst ho
  simp only [rOk, Bool.and_eq_true] at ok
  obtain ⟨⟨⟨h1, h2⟩, h3⟩, h4⟩ := ok
  have h4 := (PySem.W.Z.leB_iff _ _).mp h4
  refine wpAny_pyIter_range (IsRange.new ..) h1 ?_
  refine k _ [_] (fun _ => False) _ _ _ (keeps_heap fun b o e => Heap.get?_push_of_some _ (Heap.get?_push_of_some _ e)) (fun b hb => ?_) (fun _ _ q => q) (fun _ q => q.elim) (fun _ q => q.elim) (It_range hA) ⟨a, c, (Builtin.Range.rangeSize a b c).toNat, ?_, rfl⟩
  · have hb := List.mem_singleton.mp hb
    subst hb
    cases e : s.heap.get? (s.heap.push { cls := .type "range", data := .fields #[.int a t, .int b u, .int c v] }).objs.size with
    | none => rfl
    | some o =>
      have := Heap.lt_size e
      rw [Heap.size_push] at this
      exact absurd (Nat.lt_of_succ_lt this) (Nat.lt_irrefl _)
  · have : (((Builtin.Range.rangeSize a b c).toNat : Nat) : Int) = Builtin.Range.rangeSize a b c := Int.toNat_of_nonneg h4
    rw [this]
    exact Heap.get?_push_size _ rfl
theorem bl_range (G : Gx) (n : Nat) : BlI G n (.type "range") isNm fRange := by
  intro A U s vs ds items Q hA hR hU r hF k
  unfold fRange at hF
  split at hF
  · rename_i b
    split at hF <;> cases hF
    rename_i ok
    cases r with | cons r1 r2 => cases r2; cases r1; exact call_range_1 (range_out hA ok k rfl)
  · rename_i a b
    split at hF <;> cases hF
    rename_i ok
    cases r with | cons r1 r2 => cases r2 with | cons r2 r3 => cases r3; cases r1; cases r2; exact call_range_2 (range_out hA ok k rfl)
  · rename_i a b c
    split at hF <;> cases hF
    rename_i ok
    cases r with
    | cons r1 r2 => cases r2 with
      | cons r2 r3 => cases r3 with
        | cons r3 r4 =>
          cases r4; cases r1; cases r2; cases r3
          have ok' := ok
          simp only [rOk, Bool.and_eq_true, Bool.not_eq_true'] at ok'
          exact call_range_3 (eqB_false ok'.1.1.2) (range_out hA ok k rfl) (.inl ok'.1.2)
  · cases hF

/- ---- over enumerate(list) ---- -/
noncomputable def enumL : Nat → List D → List D
  | _, [] => []
  | i, d :: ds => .tuple [.int (i : Nat), d] :: enumL (i + 1) ds
noncomputable def staE (Z : AS) (e it ax : Addr) (vs : Array Value) : List D → Heap → Prop := fun ds h => ∃ i n old rest, IsEnum h e it (i : Nat) old ∧ h.IsListIter it ax i ∧ h.get? ax = some (lobj vs n) ∧ Rds (fun b => ¬ Z b) h (vs.toList.drop i) rest ∧ ds = enumL i rest
noncomputable def midE (Z : AS) (e it ax : Addr) (vs : Array Value) : Value → List D → Heap → Prop := fun v ds h => ∃ i n item a rest, v = .ref a ∧ IsEnumOut h e it ((i : Nat) : Int) item a ∧ h.IsListIter it ax i ∧ h.get? ax = some (lobj vs n) ∧ Rds (fun b => ¬ Z b) h (vs.toList.drop i) rest ∧ ds = enumL i rest
theorem It_enum {G : Gx} {A : Around} (hh : A.handled = none) {Z : AS} {e it ax : Addr} {vs : Array Value} (ze : ¬ Z e) (zi : ¬ Z it) (za : Z ax) (hei : e ≠ it) : It G A Z e [e, it] isTp (staE Z e it ax vs) (midE Z e it ax vs) := by
  have n1 : ax ≠ e := fun q => ze (q ▸ za)
  have n2 : ax ≠ it := fun q => zi (q ▸ za)
  refine ⟨?_, ?_, ?_, ?_, ?_, ?_, ?_⟩
  · rintro ds h h' ⟨i, n, old, rest, h1, h2, h3, h4, h5⟩ hk
    exact ⟨i, n, old, rest, hk _ _ (.inr (by simp)) h1, h2.at fun o q => hk it o (.inr (by simp)) q, hk _ _ (.inl za) h3, h4.z fun b o q e => hk b o (.inl q) e, h5⟩
  · rintro ds h ⟨i, n, old, rest, h1, ⟨o, h2, _⟩, _⟩ b hb
    simp at hb
    rcases hb with rfl | rfl
    · exact ⟨_, h1⟩
    · exact ⟨_, h2⟩
  · rintro v ds h ⟨i, n, item, a, rest, _, h1, ⟨o, h2, _⟩, _⟩ b hb
    simp at hb
    rcases hb with rfl | rfl
    · exact ⟨_, h1⟩
    · exact ⟨_, h2⟩
  · rintro d ds s Q ⟨i, n, old, rest, h1, h2, h3, h4, h5⟩ k
    cases rest with
    | nil => cases h5
    | cons d' rest =>
      cases h5
      obtain ⟨v, hv, r1, r2⟩ := h4.split
      refine wpAny_pyNext_enum_item h1 h2 (IsList_of h3) hv hei fun h' he' hit' ht' hz' hk' => ?_
      have kz : ∀ b o, Z b → s.heap.get? b = some o → h'.get? b = some o := fun b o q x => hk' b o (fun z => ze (z ▸ q)) (fun z => zi (z ▸ q)) x
      refine k _ h' (s.toks + 1) (fun b o hb x => hk' b o (fun z => hb (by simp [z])) (fun z => hb (by simp [z])) x) (fun U' hU hl => ?_) ⟨i + 1, n, v, _, rest, rfl, he', hit', hk' _ _ n1 n2 h3, r2.z kz, rfl⟩
      refine .tuple (n := 0) (fun q => ?_) ht' (.cons (.int _ _) (.cons ((r1.z kz).sub fun a q => hU a q) .nil))
      obtain ⟨o, x⟩ := hl _ q
      rw [get_size_none] at x; cases x
  · rintro t v ds s Q hok ⟨i, n, item, a, rest, rfl, h1, h2, h3, h4, h5⟩ k
    cases t <;> try (cases hok)
    refine wpAny_letOwnedTupleGo_enum h1 fun h' he' hs' => ?_
    exact k h' (fun b o hb x => hs'.extBut b o (fun z => hb (by simp [z])) x) ⟨i, n, item, rest, he', h2.extBut hs'.extBut hei.symm, hs'.extBut _ _ n1 h3, h4.z fun b o q x => hs'.extBut b o (fun z => ze (z ▸ q)) x, h5⟩
  · rintro s Q ⟨i, n, old, rest, h1, h2, h3, h4, h5⟩ k
    cases rest with
    | cons d' rest => cases h5
    | nil => exact wpAny_pyNext_enum_end hh h1 h2 (IsList_of h3) h4.ended fun h' he => k h' s.toks fun b o hb x => he b o (fun z => hb (by simp [z])) x
  · rintro ds s Q ⟨i, n, old, rest, h1, h2, h3, h4, h5⟩ k
    exact wpAny_pyIter_enum h1 k
noncomputable def fEnum : List D → Option (List D)
  | [.list ds] => some (enumL 0 ds)
  | _ => none
theorem bl_enum (G : Gx) (n : Nat) : BlI G n (.type "enumerate") isTp fEnum := by
  intro A U s vs ds items Q hA hR hU r hF k
  unfold fEnum at hF
  split at hF <;> cases hF
  cases r with
  | cons r1 r2 =>
    cases r2
    cases r1 with
    | list hn hg hs =>
      rename_i a vs n
      have hZ := hs.toZ
      refine call_enumerate_list (IsList_of hg) fun h' he hit hsz hk => ?_
      refine wpAny_pyIter_enum he ?_
      have nz : ∀ b, s.heap.objs.size ≤ b → ¬ ZU U s.heap b := fun b hb q => by
        obtain ⟨⟨o, x, _⟩, _⟩ := q
        exact absurd (Heap.lt_size x) (Nat.not_lt.mpr hb)
      have fr : ∀ b, s.heap.objs.size ≤ b → s.heap.get? b = none := fun b hb => by
        cases x : s.heap.get? b with
        | none => rfl
        | some o => exact absurd (Heap.lt_size x) (Nat.not_lt.mpr hb)
      refine k _ [s.heap.objs.size + 1, s.heap.objs.size] (ZU U s.heap) _ _ _ (keeps_heap hk) (fun b hb => ?_) (fun b hb => ?_) (fun b q => ?_) (fun b q => q.2)
        (It_enum hA (it := s.heap.objs.size) (nz _ (Nat.le_succ _)) (nz _ (Nat.le_refl _)) ⟨⟨_, hg, Sq.l _ _⟩, hn⟩ (Nat.succ_ne_self _) (vs := vs)) ⟨0, n, .none, _, he, hit, hk _ _ hg, ?_, rfl⟩
      · simp at hb
        rcases hb with rfl | rfl
        · exact fr _ (Nat.le_succ _)
        · exact fr _ (Nat.le_refl _)
      · simp at hb
        rcases hb with rfl | rfl
        · exact nz _ (Nat.le_succ _)
        · exact nz _ (Nat.le_refl _)
      · obtain ⟨⟨o, x, q⟩, _⟩ := q
        exact ⟨o, hk _ _ x, q⟩
      · simpa using hZ.kept hk

/- ---- over zip(list, list) ---- -/
noncomputable def zipL : List D → List D → List D
  | d :: ds, e :: es => .tuple [d, e] :: zipL ds es
  | _, _ => []
structure StaZ (Z : AS) (z TI TO i1 i2 l1 l2 : Addr) (xs ys : Array Value) (f0 : Value) (i : Nat) (r1 r2 : List D) (h : Heap) : Prop where
  z : IsZip h z TI TO f0
  ti : IsPair h TI (.ref i1) (.ref i2)
  to : ∃ a b, IsPair h TO a b
  i1 : h.IsListIter i1 l1 i
  i2 : h.IsListIter i2 l2 i
  l1 : ∃ n, h.get? l1 = some (lobj xs n)
  l2 : ∃ n, h.get? l2 = some (lobj ys n)
  r1 : Rds (fun b => ¬ Z b) h (xs.toList.drop i) r1
  r2 : Rds (fun b => ¬ Z b) h (ys.toList.drop i) r2
theorem It_zip {G : Gx} {A : Around} (hh : A.handled = none) {Z : AS} {z TI TO i1 i2 l1 l2 : Addr} {xs ys : Array Value} (DA : ZipApart z TI TO i1 i2 l1 l2) (nz : ∀ b ∈ [z, TI, TO, i1, i2], ¬ Z b) (za : Z l1) (zb : Z l2) :
    It G A Z z [z, TI, TO, i1, i2] isTp (fun ds h => ∃ i r1 r2, StaZ Z z TI TO i1 i2 l1 l2 xs ys .none i r1 r2 h ∧ ds = zipL r1 r2) (fun v ds h => ∃ T i r1 r2, v = .ref T ∧ StaZ Z z TI TO i1 i2 l1 l2 xs ys (rawInt T) i r1 r2 h ∧ ds = zipL r1 r2) := by
  have al : ∀ f0 i r1 r2 h, StaZ Z z TI TO i1 i2 l1 l2 xs ys f0 i r1 r2 h → ∀ b ∈ [z, TI, TO, i1, i2], ∃ o, h.get? b = some o := fun f0 i r1 r2 h S b hb => by
    simp at hb
    rcases hb with rfl | rfl | rfl | rfl | rfl
    · exact ⟨_, S.z⟩
    · exact ⟨_, S.ti⟩
    · obtain ⟨a, b, e⟩ := S.to; exact ⟨_, e⟩
    · obtain ⟨o, e, _⟩ := S.i1; exact ⟨_, e⟩
    · obtain ⟨o, e, _⟩ := S.i2; exact ⟨_, e⟩
  refine ⟨?_, ?_, ?_, ?_, ?_, ?_, ?_⟩
  · rintro ds h h' ⟨i, r1, r2, S, e⟩ hk
    obtain ⟨n1, e1⟩ := S.l1
    obtain ⟨n2, e2⟩ := S.l2
    obtain ⟨ta, tb, e3⟩ := S.to
    exact ⟨i, r1, r2, ⟨hk _ _ (.inr (by simp)) S.z, hk _ _ (.inr (by simp)) S.ti, ⟨ta, tb, hk _ _ (.inr (by simp)) e3⟩, S.i1.at fun o q => hk i1 o (.inr (by simp)) q, S.i2.at fun o q => hk i2 o (.inr (by simp)) q,
      ⟨n1, hk _ _ (.inl za) e1⟩, ⟨n2, hk _ _ (.inl zb) e2⟩, S.r1.z fun b o q x => hk b o (.inl q) x, S.r2.z fun b o q x => hk b o (.inl q) x⟩, e⟩
  · rintro ds h ⟨i, r1, r2, S, e⟩
    exact al _ _ _ _ _ S
  · rintro v ds h ⟨T, i, r1, r2, _, S, e⟩
    exact al _ _ _ _ _ S
  · rintro d ds s Q ⟨i, r1, r2, S, e⟩ k
    obtain ⟨n1, e1⟩ := S.l1
    obtain ⟨n2, e2⟩ := S.l2
    obtain ⟨ta, tb, e3⟩ := S.to
    cases r1 with
    | nil => cases e
    | cons d1 r1 => cases r2 with
      | nil => cases e
      | cons d2 r2 =>
        cases e
        obtain ⟨x, hx, q1, q2⟩ := S.r1.split
        obtain ⟨y, hy, q3, q4⟩ := S.r2.split
        refine wpAny_pyNext_zip_item DA S.z S.ti e3 S.i1 S.i2 (IsList_of e1) (IsList_of e2) hx hy fun h' a1 a2 a3 a4 a5 a6 hk => ?_
        have kz : ∀ b o, Z b → s.heap.get? b = some o → h'.get? b = some o := fun b o q x => hk b o (fun w => nz z (by simp) (w ▸ q)) (fun w => nz TO (by simp) (w ▸ q)) (fun w => nz i1 (by simp) (w ▸ q)) (fun w => nz i2 (by simp) (w ▸ q)) x
        refine k _ h' s.toks (fun b o hb x => hk b o (fun w => hb (by simp [w])) (fun w => hb (by simp [w])) (fun w => hb (by simp [w])) (fun w => hb (by simp [w])) x) (fun U' hU hl => ?_)
          ⟨_, i + 1, r1, r2, rfl, ⟨a1, hk _ _ DA.TIz DA.TITO DA.TIi1 DA.TIi2 S.ti, ⟨_, _, a2⟩, a3, a4, ⟨n1, kz _ _ za e1⟩, ⟨n2, kz _ _ zb e2⟩, q2.z kz, q4.z kz⟩, rfl⟩
        refine .tuple (n := 0) (fun q => ?_) a5 (.cons ((q1.z kz).sub fun a q => hU a q) (.cons ((q3.z kz).sub fun a q => hU a q) .nil))
        obtain ⟨o, x⟩ := hl _ q
        rw [get_size_none] at x; cases x
  · rintro t v ds s Q hok ⟨T, i, r1, r2, rfl, S, e⟩ k
    obtain ⟨n1, e1⟩ := S.l1
    obtain ⟨n2, e2⟩ := S.l2
    obtain ⟨ta, tb, e3⟩ := S.to
    cases t <;> try (cases hok)
    refine wpAny_letOwnedTupleGo_zip S.z fun h' hz' hs' => ?_
    have kz : ∀ b o, Z b → s.heap.get? b = some o → h'.get? b = some o := fun b o q x => hs'.extBut b o (fun w => nz z (by simp) (w ▸ q)) x
    exact k h' (fun b o hb x => hs'.extBut b o (fun w => hb (by simp [w])) x) ⟨i, r1, r2, ⟨hz', hs'.extBut _ _ DA.TIz S.ti, ⟨ta, tb, hs'.extBut _ _ DA.TOz e3⟩, S.i1.extBut hs'.extBut DA.i1z, S.i2.extBut hs'.extBut DA.i2z, ⟨n1, kz _ _ za e1⟩, ⟨n2, kz _ _ zb e2⟩, S.r1.z kz, S.r2.z kz⟩, e⟩
  · rintro s Q ⟨i, r1, r2, S, e⟩ k
    obtain ⟨n1, e1⟩ := S.l1
    obtain ⟨n2, e2⟩ := S.l2
    obtain ⟨ta, tb, e3⟩ := S.to
    have hend : xs[i]? = none ∨ ys[i]? = none := by
      have s1 := S.r1
      have s2 := S.r2
      cases r1 with
      | nil => exact .inl s1.ended
      | cons d1 r1 => cases r2 with
        | nil => exact .inr s2.ended
        | cons d2 r2 => cases e
    exact wpAny_pyNext_zip_end hh DA S.z S.ti e3 S.i1 S.i2 (IsList_of e1) (IsList_of e2) hend fun h' hk => k h' s.toks fun b o hb x => hk b o (fun w => hb (by simp [w])) (fun w => hb (by simp [w])) (fun w => hb (by simp [w])) (fun w => hb (by simp [w])) x
  · rintro ds s Q ⟨i, r1, r2, S, e⟩ k
    exact wpAny_pyIter_zip S.z k
noncomputable def fZip : List D → Option (List D)
  | [.list ds, .list es] => some (zipL ds es)
  | _ => none
theorem bl_zip (G : Gx) (n : Nat) : BlI G n (.type "zip") isTp fZip := by
  intro A U s vs ds items Q hA hR hU r hF k
  unfold fZip at hF
  split at hF <;> cases hF
  cases r with
  | cons r1 r2 => cases r2 with
    | cons r2 r3 =>
      cases r3
      cases r1 with
      | list hn hg hs => cases r2 with
        | list hn' hg' hs' =>
          rename_i a vs n a' vs' n'
          refine call_zip_2 (IsList_of hg) (IsList_of hg') fun h' hz hTI hTO hi1 hi2 _ hk => ?_
          refine wpAny_pyIter_zip hz ?_
          have lt1 := Heap.lt_size hg
          have lt2 := Heap.lt_size hg'
          have nzl : ∀ b, s.heap.objs.size ≤ b → ¬ ZU U s.heap b := fun b hb q => by
            obtain ⟨⟨o, x, _⟩, _⟩ := q
            exact absurd (Heap.lt_size x) (Nat.not_lt.mpr hb)
          have fr : ∀ b, s.heap.objs.size ≤ b → s.heap.get? b = none := fun b hb => by
            cases x : s.heap.get? b with
            | none => rfl
            | some o => exact absurd (Heap.lt_size x) (Nat.not_lt.mpr hb)
          have ge : ∀ b ∈ [s.heap.objs.size + 4, s.heap.objs.size + 2, s.heap.objs.size + 3, s.heap.objs.size, s.heap.objs.size + 1], s.heap.objs.size ≤ b := fun b hb => by
            simp only [List.mem_cons, List.not_mem_nil, or_false] at hb
            rcases hb with rfl | rfl | rfl | rfl | rfl
            · exact Nat.le_add_right _ _
            · exact Nat.le_add_right _ _
            · exact Nat.le_add_right _ _
            · exact Nat.le_refl _
            · exact Nat.le_add_right _ _
          refine k _ [s.heap.objs.size + 4, s.heap.objs.size + 2, s.heap.objs.size + 3, s.heap.objs.size, s.heap.objs.size + 1] (ZU U s.heap) _ _ _ (keeps_heap hk) (fun b hb => fr b (ge b hb)) (fun b hb => nzl b (ge b hb)) (fun b q => ?_) (fun b q => q.2)
            (It_zip hA (zipApart_new lt1 lt2) (fun b hb => nzl b (ge b hb)) ⟨⟨_, hg, Sq.l _ _⟩, hn⟩ ⟨⟨_, hg', Sq.l _ _⟩, hn'⟩ (xs := vs) (ys := vs'))
            ⟨0, _, _, ⟨hz, hTI, ⟨_, _, hTO⟩, hi1, hi2, ⟨n, hk _ _ hg⟩, ⟨n', hk _ _ hg'⟩, by simpa using hs.toZ.kept hk, by simpa using hs'.toZ.kept hk⟩, rfl⟩
          obtain ⟨⟨o, x, q⟩, _⟩ := q
          exact ⟨o, hk _ _ x, q⟩
end Pf

namespace Pf
open PySem PySem.Calls PyProof.Rows

theorem bindL_notin {k : Str → Option NameKind} : ∀ (l : List (Str × Value)) (m : Str → Option Value) (x : Str), x ∉ l.map (·.1) → PySem.bindL k l m x = m x
  | [], m, x, _ => rfl
  | (n, v) :: r, m, x, h => by
    simp only [List.map_cons, List.mem_cons, not_or] at h
    unfold PySem.bindL
    rw [bindL_notin r _ x h.2]
    split
    · simp [h.1]
    · rfl
theorem bindC_notin {k : Str → Option NameKind} : ∀ (l : List (Str × Value)) (m : Str → Option Value) (x : Str), x ∉ l.map (·.1) → PySem.bindC k l m x = m x
  | [], m, x, _ => rfl
  | (n, v) :: r, m, x, h => by
    simp only [List.map_cons, List.mem_cons, not_or] at h
    unfold PySem.bindC
    rw [bindC_notin r _ x h.2]
    split
    · rfl
    · simp [h.1]
theorem bindL_in {k : Str → Option NameKind} : ∀ (l : List (Str × Value)) (m : Str → Option Value) (x : Str) (v : Value), (l.map (·.1)).Nodup → (x, v) ∈ l → k x = some .local → PySem.bindL k l m x = some v
  | (n, w) :: r, m, x, v, hn, h, hk => by
    simp only [List.map_cons, List.nodup_cons] at hn
    unfold PySem.bindL
    rcases List.mem_cons.mp h with e | h
    · cases e
      rw [bindL_notin r _ _ hn.1, if_pos hk]; simp
    · exact bindL_in r _ x v hn.2 h hk
theorem bindC_in {k : Str → Option NameKind} : ∀ (l : List (Str × Value)) (m : Str → Option Value) (x : Str) (v : Value), (l.map (·.1)).Nodup → (x, v) ∈ l → k x ≠ some .local → PySem.bindC k l m x = some v
  | (n, w) :: r, m, x, v, hn, h, hk => by
    simp only [List.map_cons, List.nodup_cons] at hn
    unfold PySem.bindC
    rcases List.mem_cons.mp h with e | h
    · cases e
      rw [bindC_notin r _ _ hn.1, if_neg hk]; simp
    · exact bindC_in r _ x v hn.2 h hk

/-- what is asked of a def's names -/
noncomputable def fChk (scope : Scope) (names : List Str) : Bool :=
  decide (scope.kind = .function) && decide names.Nodup && names.all (fun x => x != ("__debug__" : Str) && x != ("__classdict__" : Str)) && names.all (fun x => decide (scope.names.lookup x = some .local) || decide (scope.names.lookup x = some .cell)) &&
  decide (scope.isCoroutine = false) && decide (scope.isGenerator = false)
noncomputable def fInit (ds : List D) (n : Nat) : St := ds.map .val ++ List.replicate (n - ds.length) .un
@[reducible] noncomputable def fCx (G : Gx) (A : Around) (fd : FuncData) (L a : Addr) (names : List Str) (n : Nat) (pin : Nat) (fx : Str → Option Value) : Cx := { G := G, A := A.deeper (callEnvC fd L a), env := callEnvC fd L a, names := names, ro := pin, lv := n, pin := pin, fx := fx }
noncomputable def fBody (m : Fs) (pn names : List Str) : List D → Option D := fun ds => match Nat.beq ds.length pn.length with
  | true => (match m (fInit ds names.length) with
    | some (_, some d) => some d
    | some (_, none) => some .none
    | none => none)
  | false => none

theorem entry_rel {G : Gx} (Og : G.Ok) {A : Around} {n : Nat} (hA : A.handled = none) (hR : Room A (n + 1)) {fd : FuncData} {pn names : List Str} (hglob : fd.globals = mainGlobals) (hblt : fd.builtins = builtinsNs) (hck : fChk fd.scope names = true) {a : Addr} {s s₁ : Shared} {vs : List Value} (hl : vs.length = pn.length)
    (I : InCallC s (callEnvC fd s.heap.objs.size a).locals (PySem.bindL (callEnvC fd s.heap.objs.size a).kindOf (pn.zip vs) fun _ => none) (callEnvC fd s.heap.objs.size a).cells (PySem.bindC (callEnvC fd s.heap.objs.size a).kindOf (pn.zip vs) fun _ => none) s₁)
    {X P U : AS} {σ : St} (base : ∀ b o, G.h0.get? b = some o → s.heap.get? b = some o ∧ P b ∧ ¬ X b) (xu : ∀ b, X b → U b) (xp : ∀ b, X b → P b) (ul : ∀ b, U b → ∃ o, s.heap.get? b = some o) (pl : ∀ b, P b → ∃ o, s.heap.get? b = some o) (pu : ∀ b, U b → X b ∨ ¬ P b)
    (hσ : σ.length = names.length) (pnd : pn.Nodup) (sl : ∀ (i : Nat) x sl, names[i]? = some x → σ[i]? = some sl → sl = .un ∨ ∃ v, (x, v) ∈ pn.zip vs ∧ SlotOk P U s.heap (fun _ => some v) "" sl)
    {pin : Nat} {fx : Str → Option Value} (hfx : ∀ (i : Nat) x, pin ≤ i → names[i]? = some x → fx x = (pn.zip vs).lookup x)
    (one : ∀ (i j : Nat) x y (ds es : List D) b, names[i]? = some x → names[j]? = some y → σ[i]? = some (.own ds) → σ[j]? = some (.own es) → (x, Value.ref b) ∈ pn.zip vs → (y, Value.ref b) ∈ pn.zip vs → i = j) :
    (fCx G A fd s.heap.objs.size a names n pin fx).Ok ∧ Rel (fCx G A fd s.heap.objs.size a names n pin fx) X P U σ s₁ := by
  simp only [fChk, Bool.and_eq_true, decide_eq_true_eq, List.all_eq_true, Bool.or_eq_true, bne_iff_ne, ne_eq] at hck
  obtain ⟨⟨⟨⟨⟨hk, hnd⟩, hdb⟩, hkd⟩, _⟩, _⟩ := hck
  have kcell : ∀ x, fd.scope.names.lookup x = some .cell → ∃ c, (callEnvC fd s.heap.objs.size a).cells.lookup x = some c := fun x hx => cellsFrom_some _ _ _ (lookup_mem hx)
  have keep := I.toInCall.keep
  have fresh : ∀ b, s.heap.objs.size ≤ b → s.heap.get? b = none := fun b hb => by
    cases x : s.heap.get? b with
    | none => rfl
    | some o => exact absurd (Heap.lt_size x) (Nat.not_lt.mpr hb)
  have cge : ∀ x c, (callEnvC fd s.heap.objs.size a).cells.lookup x = some c → s.heap.objs.size ≤ c := fun x c h => Nat.le_of_lt (I.above x c (lookup_mem h))
  have zmap : (pn.zip vs).map (·.1) = pn := map_fst_zip pn vs hl.symm
  refine ⟨⟨Og, hk, hglob, hblt, hA, hR.deeper _, Nat.le_refl _, hnd, fun x hx => ?_, fun i x hi hx => ?_, fun x y c hx hy => ?_⟩, ?_⟩
  · refine ⟨by simpa using (hdb x hx).1, by simpa using (hdb x hx).2, ?_⟩
    rcases hkd x hx with h | h
    · exact .inl h
    · exact .inr ⟨.inl h, kcell x h⟩
  · rcases hkd x (List.mem_of_getElem? hx) with h | h
    · show fd.scope.names.lookup x ≠ _; rw [h]; simp
    · show fd.scope.names.lookup x ≠ _; rw [h]; simp
  · exact name_of_addr I.apart (lookup_mem hx) (lookup_mem hy)
  let ρ : Str → Option Value := fun x => if (callEnvC fd s.heap.objs.size a).kindOf x = some .local then PySem.bindL (callEnvC fd s.heap.objs.size a).kindOf (pn.zip vs) (fun _ => none) x else PySem.bindC (callEnvC fd s.heap.objs.size a).kindOf (pn.zip vs) (fun _ => none) x
  have ρp : ∀ x v, (x, v) ∈ pn.zip vs → ρ x = some v := fun x v hm => by
    show (if _ then _ else _) = _
    split
    · rename_i h; exact bindL_in _ _ _ _ (by rw [zmap]; exact pnd) hm h
    · rename_i h; exact bindC_in _ _ _ _ (by rw [zmap]; exact pnd) hm h
  refine ⟨fun b o e => let ⟨q1, q2⟩ := base b o e; ⟨keep _ _ q1, q2⟩, xu, xp, fun b q => let ⟨o, e⟩ := ul b q; ⟨o, keep _ _ e⟩, fun b q => let ⟨o, e⟩ := pl b q; ⟨o, keep _ _ e⟩, pu, fun q => ?_, fun i x c _ _ _ hc q => ?_, fun i x c _ _ hc q => ?_, hσ, ρ, ⟨⟨_, I.toInCall.ns, fun x hx => ?_⟩, fun x c hm hx hc => ?_⟩, fun i x sl' hx hs => ?_, fun i j x y ds es b hx hy hi hj ex ey => ?_, fun i x hi hx => ?_⟩
  · obtain ⟨o, e⟩ := pl _ q
    rw [fresh _ I.toInCall.fresh] at e; cases e
  · obtain ⟨o, e⟩ := pl _ q
    rw [fresh _ (cge x c hc)] at e; cases e
  · obtain ⟨o, e⟩ := ul _ q
    rw [fresh _ (cge x c hc)] at e; cases e
  · exact (if_pos hx).symm
  · have := I.cell x c hc
    show s₁.heap.IsCell c (ρ x)
    have e : ρ x = PySem.bindC (callEnvC fd s.heap.objs.size a).kindOf (pn.zip vs) (fun _ => none) x := if_neg hx
    rw [e]; exact this
  · rcases sl i x sl' hx hs with rfl | ⟨v, hm, h1⟩
    · trivial
    · have h2 := ρp x v hm
      cases sl' with
      | un => trivial
      | val d => obtain ⟨w, g1, g2⟩ := h1; cases g1; exact ⟨_, h2, g2.kept keep⟩
      | own ds => obtain ⟨b, ws, c, g1, g2, g3, g4, g5⟩ := h1; cases g1; exact ⟨b, ws, c, h2, g2, g3, keep _ _ g4, g5.kept keep⟩
  · rcases sl i x _ hx hi with q | ⟨v, hm, _⟩
    · cases q
    rcases sl j y _ hy hj with q | ⟨w, hm', _⟩
    · cases q
    have e1 := (ρp x v hm).symm.trans ex
    have e2 := (ρp y w hm').symm.trans ey
    cases e1
    cases e2
    exact one i j x y ds es b hx hy hi hj hm hm'
  · show ρ x = fx x
    rw [hfx i x hi hx]
    cases e : (pn.zip vs).lookup x with
    | some v =>
      have hm := lookup_mem e
      show (if _ then _ else _) = _
      split
      · rename_i h; exact bindL_in _ _ _ _ (by rw [zmap]; exact pnd) hm h
      · rename_i h; exact bindC_in _ _ _ _ (by rw [zmap]; exact pnd) hm h
    | none =>
      have hm : x ∉ (pn.zip vs).map (·.1) := fun q => by
        rw [List.mem_map] at q
        obtain ⟨⟨y, v⟩, hv, rfl⟩ := q
        rw [nodup_lookup (by rw [zmap]; exact pnd) hv] at e; cases e
      show (if _ then _ else _) = _
      split
      · rw [bindL_notin _ _ _ hm]
      · rw [bindC_notin _ _ _ hm]
end Pf

namespace Pf
open PySem PySem.Calls PyProof.Rows

abbrev fdOf (d : DefRec) (pm code doc : Value) : FuncData := docDef d.name d.params d.body d.scope pm code doc
theorem fChk_kinds {scope : Scope} {names : List Str} (h : fChk scope names = true) : scope.kind = .function ∧ scope.isCoroutine = false ∧ scope.isGenerator = false ∧ names.Nodup ∧ (∀ x ∈ names, scope.names.lookup x = some .local ∨ scope.names.lookup x = some .cell) := by
  simp only [fChk, Bool.and_eq_true, decide_eq_true_eq, List.all_eq_true, Bool.or_eq_true] at h
  obtain ⟨⟨⟨⟨⟨hk, hnd⟩, hdb⟩, hkd⟩, h1⟩, h2⟩ := h
  exact ⟨hk, h1, h2, hnd, hkd⟩

theorem call_entry {G : Gx} (O : G.Ok) {n : Nat} {d : DefRec} {pm code doc : Value} {pn names : List Str} (hck : fChk d.scope names = true) (hpn : ∀ x ∈ pn, x ∈ names) (hbind : ∀ vs, vs.length = pn.length → bindArgs (fdOf d pm code doc) ⟨vs, []⟩ = pure (pn.zip vs))
    {A : Around} (hA : A.handled = none) (hR : Room A (n + 1)) {s : Shared} {a : Addr} {o : Obj} (ho : s.heap.get? a = some o) (hdt : o.data = .func (fdOf d pm code doc)) (hcr : G.h0.CodeRec code d.name) (hb0 : ∀ b o, G.h0.get? b = some o → s.heap.get? b = some o)
    {vs : List Value} (hl : vs.length = pn.length) {Q : Value → Shared → Prop}
    (h : ∀ s₁, InCallC s (callEnvC (fdOf d pm code doc) s.heap.objs.size a).locals (PySem.bindL (callEnvC (fdOf d pm code doc) s.heap.objs.size a).kindOf (pn.zip vs) fun _ => none) (callEnvC (fdOf d pm code doc) s.heap.objs.size a).cells (PySem.bindC (callEnvC (fdOf d pm code doc) s.heap.objs.size a).kindOf (pn.zip vs) fun _ => none) s₁ →
      W G (A.deeper (callEnvC (fdOf d pm code doc) s.heap.objs.size a)) (execs d.body (callEnvC (fdOf d pm code doc) s.heap.objs.size a)) (fun f s' => Q (match f with | .ret v => v | _ => .none) s') s₁) :
    W G A (call (.ref a) vs) Q s := by
  obtain ⟨hk, hco, hge, _, hkd⟩ := fChk_kinds hck
  refine wpAny_call ?_
  refine codeAny_call_cells (fd := fdOf d pm code doc) (body := d.body) (binds := pn.zip vs) hR.depth ho hdt (O.T.nolimit.keeps hb0) (hcr.keeps hb0) rfl (hbind vs hl) rfl (fun x hx => ?_) (fun s₁ I => W.any (h s₁ I)) hco hge hk
  have hx' : x.1 ∈ names := hpn _ (List.of_mem_zip (a := x.1) (b := x.2) hx).1
  rcases hkd x.1 hx' with h | h
  · exact .inl h
  · refine .inr ⟨h, ?_⟩
    obtain ⟨c, hc⟩ := cellsFrom_some d.scope.names (s.heap.objs.size + 1) x.1 (lookup_mem h)
    exact Option.isSome_iff_exists.mpr ⟨c, hc⟩

theorem zip_idx {xs : List Str} (hn : xs.Nodup) {vs : List Value} {i : Nat} {x : Str} {v : Value} (hx : xs[i]? = some x) (hm : (x, v) ∈ xs.zip vs) : vs[i]? = some v := by
  obtain ⟨j, hj⟩ := List.getElem?_of_mem hm
  rw [List.getElem?_zip_eq_some] at hj
  have := idx_inj hn hx hj.1
  exact this ▸ hj.2
theorem SF_defC {G : Gx} (O : G.Ok) {n : Nat} {d : DefRec} (hd : d ∈ G.defs) {pn names : List Str} {m : Fs} (hck : fChk d.scope names = true) (htk : names.take pn.length = pn)
    (hbind : ∀ pm code doc vs, vs.length = pn.length → bindArgs (fdOf d pm code doc) ⟨vs, []⟩ = pure (pn.zip vs))
    {CK : Value → Prop} (hc : ∀ a o pm code doc, G.mg d.name = some (.ref a) → G.h0.get? a = some o → o.data = .func (fdOf d pm code doc) → CK code)
    (hb : ∀ A pm code doc L a, CK code → (fCx G A (fdOf d pm code doc) L a names n names.length fun _ => none).Ok → SS (fCx G A (fdOf d pm code doc) L a names n names.length fun _ => none) (execs d.body (fCx G A (fdOf d pm code doc) L a names n names.length fun _ => none).env) m) :
    SF G (n + 1) d.name (fBody m pn names) := by
  obtain ⟨a, o, pm, code, doc, h1, h2, h3, h4⟩ := O.T.fn d hd
  refine ⟨a, o, _, h1, h2, h3, ?_⟩
  intro A X s vs ds dd Q hA hR base xl hr hF k
  unfold fBody at hF
  split at hF
  · rename_i hlen
    have hlen := Nat.eq_of_beq_eq_true hlen
    have hl : vs.length = pn.length := by rw [hr.length]; exact hlen
    have hnd := (fChk_kinds hck).2.2.2.1
    have pnd : pn.Nodup := htk ▸ List.Sublist.nodup (List.take_sublist _ _) hnd
    have ple : pn.length ≤ names.length := by
      have := congrArg List.length htk
      simp at this
      omega
    refine call_entry O hck (fun x hx => List.mem_of_mem_take (by rw [htk]; exact hx)) (hbind pm code doc) hA hR (base a o h2).1 h3 h4 (fun b o e => (base b o e).1) hl fun s₁ I => ?_
    have small : ∀ (i : Nat) sl, (fInit ds names.length)[i]? = some sl → (∃ d, ds[i]? = some d ∧ sl = .val d) ∨ sl = .un := fun i sl hs => by
      unfold fInit at hs
      by_cases q : i < ds.length
      · rw [List.getElem?_append_left (by simpa using q), List.getElem?_map, List.getElem?_eq_getElem q] at hs
        simp only [Option.map_some, Option.some.injEq] at hs
        exact .inl ⟨_, List.getElem?_eq_getElem q, hs.symm⟩
      · rw [List.getElem?_append_right (by simp; omega), List.getElem?_replicate] at hs
        split at hs <;> cases hs
        exact .inr rfl
    have sl1 : ∀ (i : Nat) x sl, names[i]? = some x → (fInit ds names.length)[i]? = some sl → sl = .un ∨ ∃ v, (x, v) ∈ pn.zip vs ∧ SlotOk (fun b => ∃ o, s.heap.get? b = some o) X s.heap (fun _ => some v) "" sl := fun i x sl hx hs => by
      rcases small i sl hs with ⟨d', hd', rfl⟩ | rfl
      · refine .inr ?_
        obtain ⟨v, hv, hrd⟩ := hr.get hd'
        have hi : i < pn.length := by have := (List.getElem?_eq_some_iff.mp hv).1; omega
        refine ⟨v, List.mem_of_getElem? (i := i) ?_, v, rfl, hrd⟩
        rw [List.getElem?_zip_eq_some]
        refine ⟨?_, hv⟩
        rw [← htk, List.getElem?_take, if_pos hi]; exact hx
      · exact .inl rfl
    have ER := entry_rel (σ := fInit ds names.length) (X := X) (U := X) (P := fun b => ∃ o, s.heap.get? b = some o) (pin := names.length) (fx := fun _ => none) O hA hR (fd := fdOf d pm code doc) rfl rfl hck hl I (fun b o e => ⟨(base b o e).1, ⟨o, (base b o e).1⟩, (base b o e).2⟩) (fun _ q => q) xl xl (fun _ q => q) (fun _ q => .inl q)
      (by simp [fInit]; omega) pnd sl1 (fun i x hi hx => absurd (List.getElem?_eq_some_iff.mp hx).1 (by omega)) (fun i j x y es fs b _ _ hi hj _ _ => by rcases small i _ hi with ⟨_, _, q⟩ | q <;> cases q)
    obtain ⟨OC, R⟩ := ER
    have hb := hb A pm code doc s.heap.objs.size a (hc a o pm code doc h1 h2 h3) OC
    split at hF
    · rename_i σ' d' e
      cases hF
      refine hb X _ X _ s₁ _ R σ' (some dd) e fun fl s₂ p => ?_
      obtain ⟨p1, p2, v, rfl, hv⟩ := p
      obtain ⟨h', tk, rfl⟩ := shape_trans I.toInCall.same p1
      exact k v _ ⟨h', tk, rfl, fun b o e => p2 b o ⟨o, e⟩ (I.toInCall.keep b o e)⟩ hv
    · rename_i σ' e
      cases hF
      refine hb X _ X _ s₁ _ R σ' none e fun fl s₂ p => ?_
      obtain ⟨p1, p2, rfl, _⟩ := p
      obtain ⟨h', tk, rfl⟩ := shape_trans I.toInCall.same p1
      exact k .none _ ⟨h', tk, rfl, fun b o e => p2 b o ⟨o, e⟩ (I.toInCall.keep b o e)⟩ .none
    · cases hF
  · cases hF

theorem SF_def {G : Gx} (O : G.Ok) {n : Nat} {d : DefRec} (hd : d ∈ G.defs) {pn names : List Str} {m : Fs} (hck : fChk d.scope names = true) (htk : names.take pn.length = pn)
    (hbind : ∀ pm code doc vs, vs.length = pn.length → bindArgs (fdOf d pm code doc) ⟨vs, []⟩ = pure (pn.zip vs))
    (hb : ∀ A pm code doc L a, (fCx G A (fdOf d pm code doc) L a names n names.length fun _ => none).Ok → SS (fCx G A (fdOf d pm code doc) L a names n names.length fun _ => none) (execs d.body (fCx G A (fdOf d pm code doc) L a names n names.length fun _ => none).env) m) :
    SF G (n + 1) d.name (fBody m pn names) :=
  SF_defC (CK := fun _ => True) O hd hck htk hbind (fun _ _ _ _ _ _ _ _ => trivial) fun A pm code doc L a _ O' => hb A pm code doc L a O'

/- ---- a def that mutates its first argument ---- -/
noncomputable def CallM (G : Gx) (n : Nat) (v : Value) (F : List D → List D → Option (List D)) : Prop :=
  ∀ A (X : AS) s a ws c ds vs es ds' (Q : Value → Shared → Prop), A.handled = none → Room A n → (∀ b o, G.h0.get? b = some o → s.heap.get? b = some o ∧ ¬ X b ∧ b ≠ a) → (∀ b, X b → b ≠ a ∧ ∃ o, s.heap.get? b = some o) →
    s.heap.get? a = some (lobj ws c) → Rds (fun b => X b ∨ b = a) s.heap ws.toList ds → Rds (fun b => X b ∨ b = a) s.heap vs es → F ds es = some ds' →
    (∀ h' tk ws' c', (∀ b o, b ≠ a → s.heap.get? b = some o → h'.get? b = some o) → h'.get? a = some (lobj ws' c') → Rds (fun b => X b ∨ b = a) h' ws'.toList ds' → Q .none { s with heap := h', toks := tk }) → W G A (call v (.ref a :: vs)) Q s
noncomputable def SFM (G : Gx) (n : Nat) (f : Str) (F : List D → List D → Option (List D)) : Prop :=
  ∃ a o fd, G.mg f = some (.ref a) ∧ G.h0.get? a = some o ∧ o.data = .func fd ∧ CallM G n (.ref a) F
/-- the names: the parameters but the first, the locals, the first parameter last -/
noncomputable def mInit (ds es : List D) (n : Nat) : St := (es.map .val ++ List.replicate (n - es.length) .un) ++ [.own ds]
noncomputable def mBody (m : Fs) (pn names : List Str) : List D → List D → Option (List D) := fun ds es => match Nat.beq es.length pn.length with
  | true => (match m (mInit ds es names.length) with
    | some (σ, none) => (match σ[names.length]? with | some (.own ds') => some ds' | _ => none)
    | _ => none)
  | false => none
theorem SFM_def {G : Gx} (O : G.Ok) {n : Nat} {d : DefRec} (hd : d ∈ G.defs) {p0 : Str} {pn names : List Str} {m : Fs} (hck : fChk d.scope (names ++ [p0]) = true) (htk : names.take pn.length = pn)
    (hbind : ∀ pm code doc vs, vs.length = pn.length + 1 → bindArgs (fdOf d pm code doc) ⟨vs, []⟩ = pure ((p0 :: pn).zip vs))
    (hb : ∀ A pm code doc L a fx, (fCx G A (fdOf d pm code doc) L a (names ++ [p0]) n names.length fx).Ok → SS (fCx G A (fdOf d pm code doc) L a (names ++ [p0]) n names.length fx) (execs d.body (fCx G A (fdOf d pm code doc) L a (names ++ [p0]) n names.length fx).env) m) :
    SFM G (n + 1) d.name (mBody m pn names) := by
  obtain ⟨a, o, pm, code, doc, h1, h2, h3, h4⟩ := O.T.fn d hd
  refine ⟨a, o, _, h1, h2, h3, ?_⟩
  intro A X s w ws c ds vs es ds' Q hA hR base xl hw hws hr hF k
  unfold mBody at hF
  split at hF
  · rename_i hlen
    have hlen := Nat.eq_of_beq_eq_true hlen
    have hl : vs.length = pn.length := by rw [hr.length]; exact hlen
    have hnd := (fChk_kinds hck).2.2.2.1
    have hnd' := List.nodup_append.mp hnd
    have p0n : p0 ∉ names := fun q => hnd'.2.2 p0 q p0 (by simp) rfl
    have pmem : ∀ x ∈ pn, x ∈ names := fun x hx => List.mem_of_mem_take (by rw [htk]; exact hx)
    have pnd : (p0 :: pn).Nodup := List.nodup_cons.mpr ⟨fun q => p0n (pmem _ q), htk ▸ List.Sublist.nodup (List.take_sublist _ _) hnd'.1⟩
    have ple : pn.length ≤ names.length := by
      have := congrArg List.length htk
      simp at this
      omega
    refine call_entry O hck (fun x hx => ?_) (fun vs hv => hbind pm code doc vs hv) hA hR (base a o h2).1 h3 h4 (fun b o e => (base b o e).1) (by simp [hl]) fun s₁ I => ?_
    · rcases List.mem_cons.mp hx with rfl | hx
      · simp
      · exact List.mem_append_left _ (pmem x hx)
    have small : ∀ (i : Nat) sl, (mInit ds es names.length)[i]? = some sl → (∃ d, es[i]? = some d ∧ sl = .val d) ∨ (sl = .un) ∨ (i = names.length ∧ sl = .own ds) := fun i sl hs => by
      unfold mInit at hs
      have le : es.length ≤ names.length := by omega
      by_cases q : i < names.length
      · rw [List.getElem?_append_left (by simp; omega)] at hs
        by_cases q' : i < es.length
        · rw [List.getElem?_append_left (by simpa using q'), List.getElem?_map, List.getElem?_eq_getElem q'] at hs
          simp only [Option.map_some, Option.some.injEq] at hs
          exact .inl ⟨_, List.getElem?_eq_getElem q', hs.symm⟩
        · rw [List.getElem?_append_right (by simp; omega), List.getElem?_replicate] at hs
          split at hs <;> cases hs
          exact .inr (.inl rfl)
      · have e1 : (es.map Slot.val ++ List.replicate (names.length - es.length) Slot.un).length = names.length := by simp; omega
        rw [List.getElem?_append_right (by omega), e1] at hs
        have := (List.getElem?_eq_some_iff.mp hs).1
        simp at this
        have e2 : i = names.length := by omega
        subst e2
        simp at hs
        exact .inr (.inr ⟨rfl, hs.symm⟩)
    have sl1 : ∀ (i : Nat) x sl, (names ++ [p0])[i]? = some x → (mInit ds es names.length)[i]? = some sl → sl = .un ∨ ∃ v, (x, v) ∈ (p0 :: pn).zip (.ref w :: vs) ∧ SlotOk (fun b => (∃ o, s.heap.get? b = some o) ∧ b ≠ w) (fun b => X b ∨ b = w) s.heap (fun _ => some v) "" sl := fun i x sl hx hs => by
      rcases small i sl hs with ⟨d', hd', rfl⟩ | rfl | ⟨rfl, rfl⟩
      · refine .inr ?_
        obtain ⟨v, hv, hrd⟩ := hr.get hd'
        have hi : i < pn.length := by have := (List.getElem?_eq_some_iff.mp hv).1; omega
        refine ⟨v, List.mem_cons_of_mem _ (List.mem_of_getElem? (i := i) ?_), v, rfl, hrd⟩
        show (pn.zip vs)[i]? = _
        rw [List.getElem?_zip_eq_some]
        refine ⟨?_, hv⟩
        rw [List.getElem?_append_left (by omega)] at hx
        rw [← htk, List.getElem?_take, if_pos hi]; exact hx
      · exact .inl rfl
      · refine .inr ⟨.ref w, ?_, w, ws, c, rfl, .inr rfl, fun q => q.2 rfl, hw, hws⟩
        simp at hx
        subst hx
        exact List.mem_cons_self
    have one1 : ∀ (i j : Nat) x y (es' fs : List D) b, (names ++ [p0])[i]? = some x → (names ++ [p0])[j]? = some y → (mInit ds es names.length)[i]? = some (.own es') → (mInit ds es names.length)[j]? = some (.own fs) → (x, Value.ref b) ∈ (p0 :: pn).zip (.ref w :: vs) → (y, Value.ref b) ∈ (p0 :: pn).zip (.ref w :: vs) → i = j := fun i j x y es' fs b hx hy hi hj _ _ => by
      rcases small i _ hi with ⟨_, _, q⟩ | q | ⟨q, _⟩
      · cases q
      · cases q
      rcases small j _ hj with ⟨_, _, q'⟩ | q' | ⟨q', _⟩
      · cases q'
      · cases q'
      rw [q, q']
    have ER := entry_rel (σ := mInit ds es names.length) (X := X) (U := fun b => X b ∨ b = w) (P := fun b => (∃ o, s.heap.get? b = some o) ∧ b ≠ w) (pin := names.length) (fx := fun x => ((p0 :: pn).zip (.ref w :: vs)).lookup x) O hA hR (fd := fdOf d pm code doc) rfl rfl hck (pn := p0 :: pn) (vs := .ref w :: vs) (by simp [hl]) I
      (fun b o e => ⟨(base b o e).1, ⟨⟨o, (base b o e).1⟩, (base b o e).2.2⟩, (base b o e).2.1⟩) (fun _ q => .inl q) (fun b q => ⟨(xl b q).2, (xl b q).1⟩) (fun b q => q.elim (fun q => (xl b q).2) fun q => ⟨_, q ▸ hw⟩) (fun _ q => q.1) (fun b q => q.imp id fun e y => y.2 e)
      (by simp [mInit]; omega) pnd sl1 (fun i x hi hx => rfl) one1
    obtain ⟨OC, R⟩ := ER
    have hb := hb A pm code doc s.heap.objs.size a _ OC
    split at hF
    · rename_i σ' e
      split at hF <;> cases hF
      rename_i hown
      refine hb X _ _ _ s₁ _ R σ' none e fun fl s₂ p => ?_
      obtain ⟨p1, p2, rfl, U', R'⟩ := p
      obtain ⟨h', tk, rfl⟩ := shape_trans I.toInCall.same p1
      obtain ⟨ρ, V⟩ := R'.vars
      have hx : (names ++ [p0])[names.length]? = some p0 := by simp
      obtain ⟨w', ws', c', g1, g2, g3, g4, g5⟩ := V.slot names.length p0 _ hx hown
      have g6 := V.fx names.length p0 (Nat.le_refl _) hx
      have g7 : ρ p0 = some (.ref w) := g6.trans (by simp [List.lookup_cons])
      rw [g7] at g1
      cases g1
      refine k h' tk ws' c' (fun b o hb e => p2 b o ⟨⟨o, e⟩, hb⟩ (I.toInCall.keep b o e)) g4 (g5.sub fun b q => q.elim (R'.xu b) fun e => e ▸ g2)
    · cases hF
  · cases hF

/-- f(x, ...) where x is an owned list -/
noncomputable def sCallM (i : Nat) (m : Fl) (F : List D → List D → Option (List D)) : Fs := fun σ => match σ[i]? with
  | some (.own ds) => (match m σ with
    | some es => (match F ds es with | some ds' => some (σ.set i (.own ds'), none) | none => none)
    | none => none)
  | _ => none
theorem starEach_name {x : Str} {p : Pos} {es : List Expr} {env : Env} : starEach (.Name x p :: es) env = (false, eval (.Name x p) env) :: starEach es env := rfl
theorem SS_callM {C : Cx} (O : C.Ok) {i : Nat} {x f : Str} {es : List Expr} {p1 p cp pos : Pos} {m : Fl} {F : List D → List D → Option (List D)} {n : Nat} (hS : SFM C.G n f F) (hn : n ≤ C.lv) (hk : C.env.kindOf f = some .globalImplicit) (hx : C.names[i]? = some x) (hl : SL C es m)
    (hint : interactive C.env = false) (hsw : swapsWith (.Call (.Name f p) (.Name x p1 :: es) [] cp) none pos.line C.env = pure false := by rfl) (hd : (f == ("__debug__" : Str)) = false := by decide) :
    SS C (exec (.Expr (.Call (.Name f p) (.Name x p1 :: es) [] cp) pos) C.env) (sCallM i m F) := by
  intro X P U σ s Q R σ' r hd' k
  obtain ⟨fa, o, fd, h1, h2, h3, h4⟩ := hS
  unfold sCallM at hd'
  split at hd'
  · rename_i ds hi
    split at hd'
    · rename_i es' hm
      split at hd' <;> cases hd'
      rename_i ds' hF
      obtain ⟨ρ, V⟩ := R.vars
      obtain ⟨a, vs, c, hρ, hU, hP, hg, hr⟩ := own_at (X := X) V hx hi
      refine wpAny_Expr ?_ hint hsw
      refine wpAny_Call_NameR (ld_glob O R hk h1 ?_ hd)
      have hany : (backTo cp (starEach (.Name x p1 :: es) C.env)).any (·.1) = false := by
        rw [starEach_name]
        exact hl.1 cp C.env
      refine callWith_function (o := o) (fd := fd) (evalArgs_ns starEach_ne hany ?_)
      rw [starEach_name]
      show W _ _ (spliced ((false, eval (.Name x p1) C.env) :: backTo cp (starEach es C.env))) _ s
      refine spliced_cons ((ld_name O V.fr hx hρ ?_).2)
      refine hl.2 _ X P U σ s _ R es' hm fun ws s₁ K q => ?_
      have kg := keeps_get K
      refine ⟨⟨kg _ _ (R.base _ _ h2).1, h3⟩, ?_⟩
      have R₁ := R.keeps K
      have hXa : ¬ X a := fun q => hP (R.xp a q)
      have hUe : ∀ b, (U b ∧ b ≠ a) ∨ b = a → U b := fun b q => q.elim (·.1) fun e => e ▸ hU
      refine h4 C.A (fun b => U b ∧ b ≠ a) s₁ a vs c ds ws es' ds' _ O.hd (O.room.mono hn) (fun b o e => ?_) (fun b q => ⟨q.2, R₁.ul b q.1⟩) (kg _ _ hg) ((hr.kept kg).sub hUe) (q.sub hUe) hF fun h' tk ws' c' hk' hg' hr' => ?_
      · obtain ⟨q1, q2, q3⟩ := R₁.base b o e
        exact ⟨q1, fun z => (R₁.pu b z.1).elim q3 fun y => y q2, fun e => hP (e ▸ q2)⟩
      · refine k _ _ (mut_post (U := U) K ⟨h', tk, rfl⟩ hP hk' ?_)
        have hr2 : Rds U h' ws'.toList ds' := hr'.sub fun b q => by
          by_cases e : b = a
          · exact .inr e
          · exact .inl ⟨q, e⟩
        exact (R₁.mutate' O (V.kept kg) hx hi hρ (kg _ _ hg) hg' hk' hr2)
    · cases hd'
  · cases hd'
end Pf

namespace Pf
open PySem PySem.Calls PyProof.Rows

/- ---- x[j], x[k] = e, f ---- -/
noncomputable def stepSet (i : Nat) (mi : Fe) (d : D) : St → Option St := fun σ => match σ[i]? with
  | some (.own ds) => (match mi σ with
    | some (.int (.ofNat j)) => (match short ds with
      | true => (match Nat.blt j ds.length with | true => some (σ.set i (.own (ds.set j d))) | false => none)
      | false => none)
    | _ => none)
  | _ => none
theorem set_core {C : Cx} (O : C.Ok) {i : Nat} {x : Str} {ix : Expr} {p1 sp : Pos} {mi : Fe} (hx : C.names[i]? = some x) (hi' : SE C (eval ix C.env) mi) {X P U : AS} {σ σ' : St} {s : Shared} (R : Rel C X P U σ s) {d : D} {v : Value} (q : Rd U s.heap v d)
    (hd : stepSet i mi d σ = some σ') {Q : Unit → Shared → Prop}
    (k : ∀ s', (∃ h' tk, s' = { s with heap := h', toks := tk }) → (∀ b o, P b → s.heap.get? b = some o → s'.heap.get? b = some o) → (∀ b o, ¬ U b → s.heap.get? b = some o → s'.heap.get? b = some o) → Rel C X P U σ' s' → Q () s') :
    W C.G C.A (assign (.Subscript (.Name x p1) ix sp) C.env v) Q s := by
  unfold stepSet at hd
  split at hd
  · rename_i ds hi
    split at hd
    · rename_i j hj
      split at hd
      · rename_i hsh
        split at hd <;> cases hd
        rename_i hlt
        have hlt := (PySem.W.Z.blt_iff).mp hlt
        obtain ⟨ρ, V⟩ := R.vars
        obtain ⟨a, vs, n, hρ, hU, hP, hg, hr⟩ := own_at (X := X) V hx hi
        rw [assign_Subscript]
        refine wpAny_bind (wpAny_holding ((ld_name O V.fr hx hρ ?_).2))
        refine wpAny_bind (wpAny_holding (hi' X P U σ s _ R _ hj fun w s₂ K q' => ?_))
        cases q'
        refine wpAny_bind (wpAny_standAt (wpAny_bind (wpAny_holding ?_)))
        have l1 := hr.length
        have l3 := short_le hsh
        simp only [Array.length_toList] at l1
        have hg2 := keeps_get K _ _ hg
        have hjv : (Int.ofNat j) < 2 ^ 63 := by show (j : Int) < 2 ^ 63; omega
        have hjn : (Int.ofNat j) < (vs.size : Int) := by show (j : Int) < (vs.size : Int); omega
        obtain ⟨n', hn'⟩ := upd_list (·.setIfInBounds (Int.ofNat j).toNat v) hg2
        have hk : ∀ b o, b ≠ a → s₂.heap.get? b = some o → (s₂.heap.update a (Obj.mapSeq (·.setIfInBounds (Int.ofNat j).toNat v))).get? b = some o := fun b o hb e => (Heap.get?_update_other _ _ (Ne.symm hb)).trans e
        refine PySem.W.ki_setAt hg2 (Int.natCast_nonneg j) hjv hjn ?_
        refine wpAny_release (k _ (shape_trans (keeps_shape K) ⟨_, _, rfl⟩) (fun b o p e => hk b o (fun z => hP (z ▸ p)) (keeps_get K b o e)) (fun b o p e => hk b o (fun z => p (z ▸ hU)) (keeps_get K b o e)) ((R.keeps K).mutate O (V.kept (keeps_get K)) hx hi hρ hg2 hn' hk ?_))
        have e1 : (vs.setIfInBounds (Int.ofNat j).toNat v).toList = vs.toList.set j v := by
          rw [Array.toList_setIfInBounds]; rfl
        rw [e1]
        exact (hr.kept (keeps_get K)).set j (q.kept (keeps_get K))
      · cases hd
    · cases hd
  · cases hd
noncomputable def sSwap (i : Nat) (mi1 mi2 mv1 mv2 : Fe) : Fs := fun σ => match mv1 σ with
  | some d1 => (match mv2 σ with
    | some d2 => (match stepSet i mi1 d1 σ with
      | some σ1 => (match stepSet i mi2 d2 σ1 with | some σ2 => some (σ2, none) | none => none)
      | none => none)
    | none => none)
  | none => none
theorem SS_swap {C : Cx} (O : C.Ok) {i : Nat} {x : Str} {ix1 ix2 e1 e2 : Expr} {p1 p2 q1 q2 p p' pos : Pos} {n n' : Nat} {mi1 mi2 mv1 mv2 : Fe} (hx : C.names[i]? = some x) (hi1 : SE C (eval ix1 C.env) mi1) (hi2 : SE C (eval ix2 C.env) mi2) (h : SL C [e1, e2] (lCons mv1 (lCons mv2 lNil)))
    (hw : swappedStores [.Tuple [.Subscript (.Name x p1) ix1 q1, .Subscript (.Name x p2) ix2 q2] n p] (.Tuple [e1, e2] n' p') C.env = pure none) (hs : swapsWithSole [.Tuple [.Subscript (.Name x p1) ix1 q1, .Subscript (.Name x p2) ix2 q2] n p] (.Tuple [e1, e2] n' p') pos.line C.env = pure false := by rfl) :
    SS C (exec (.Assign [.Tuple [.Subscript (.Name x p1) ix1 q1, .Subscript (.Name x p2) ix2 q2] n p] (.Tuple [e1, e2] n' p') pos) C.env) (sSwap i mi1 mi2 mv1 mv2) := by
  intro X P U σ s Q R σ' r hd k
  unfold sSwap at hd
  split at hd
  · rename_i d1 hd1
    split at hd
    · rename_i d2 hd2
      split at hd
      · rename_i σ1 hs1
        split at hd <;> cases hd
        rename_i hs2
        have hm : eTup (lCons mv1 (lCons mv2 lNil)) σ = some (.tuple [d1, d2]) := by simp [eTup, lCons, lNil, hd1, hd2]
        refine Assign_Tuple (SE_tuple (n := n') (pos := p') h X P U σ s _ R _ hm fun v s₁ K r => ?_) hs hw
        cases r with
        | tuple hn hg hr =>
          rename_i a vs c
          have l1 := hr.length
          simp only [Array.length_toList] at l1
          have hst : (assignEach [.Subscript (.Name x p1) ix1 q1, .Subscript (.Name x p2) ix2 q2] C.env) = [(false, assign (.Subscript (.Name x p1) ix1 q1) C.env), (false, assign (.Subscript (.Name x p2) ix2 q2) C.env)] := rfl
          refine wpAny_assign_Tuple O.hd ⟨_, hg, rfl, c, rfl⟩ (by rw [hst, l1]; rfl) (by rw [hst]; rfl) fun h' he => ?_
          have K' := ext_keeps he
          have hr' := hr.kept (keeps_get K')
          rw [hst]
          have R' := R.keeps (keeps_trans K K')
          generalize vs.toList = ws at hr'
          cases hr' with
          | cons r1 r2 => cases r2 with
            | cons r2 r3 =>
              cases r3
              rename_i v1 v2
              show W _ _ (do holding [v2] (assign (.Subscript (.Name x p1) ix1 q1) C.env v1); do holding [] (assign (.Subscript (.Name x p2) ix2 q2) C.env v2); pure ()) _ _
              refine wpAny_bind (wpAny_holding (set_core O hx hi1 R' r1 hs1 fun s₂ sh2 kp2 ku2 R₂ => ?_))
              have r2' : Rd U s₂.heap v2 d2 := r2.mono (fun _ q => q) ku2
              refine wpAny_bind (wpAny_holding (set_core O hx hi2 R₂ r2' hs2 fun s₃ sh3 kp3 ku3 R₃ => wpAny_pure ?_))
              have kk := keeps_trans K K'
              exact k _ _ ⟨shape_trans (keeps_shape kk) (shape_trans sh2 sh3), fun b o p e => kp3 b o p (kp2 b o p (keeps_get kk b o e)), rfl, U, R₃⟩
      · cases hd
    · cases hd
  · cases hd
end Pf

namespace Pf
open PySem PySem.Calls PyProof.Rows
open PySem.SeqAt (EqAt)
open PySem.MeetsSeq3 (plain_eq_loop entry_eq_loop)
open PySem.AutoSeq1 (wpAny_loadPart')

/- ---- `<` on lists and tuples ---- -/
noncomputable def LtAt (A : Around) (s : Shared) (x y : Value) (b : Bool) : Prop :=
  ∀ (prog : Program) (w : World) (E : Value → Shared → Prop) (Q : Value → Shared → Prop), Q (.bool b) s → wpAny (model prog w) A (richCompare .Lt x y) Q E s
inductive LexAt (A : Around) (s : Shared) (xs ys : Array Value) : Nat → Bool → Prop
  | done {i} : xs[i]? = none ∨ ys[i]? = none → LexAt A s xs ys i (decide (xs.size < ys.size))
  | eq {i x y b} : xs[i]? = some x → ys[i]? = some y → EqAt A s x y true → LexAt A s xs ys (i + 1) b → LexAt A s xs ys i b
  | ne {i x y b} : xs[i]? = some x → ys[i]? = some y → EqAt A s x y false → LtAt A s x y b → LexAt A s xs ys i b

theorem lt_loop {l k : Addr} {xs ys : Array Value} {n n2 : Nat} {A : Around} {s : Shared} (hl : s.heap.get? l = some (lobj xs n)) (hb : s.heap.get? k = some (lobj ys n2)) {i : Nat} {b : Bool} (L : LexAt A.in1 s xs ys i b) :
    ∀ (prog : Program) (w : World) (R : Result → Shared → Prop), R (.ok (.ret (.bool b))) s →
      wpAny (model prog w) A.in1 (Builtin.«list.__eq__.loop» ⟨[.ref l, .ref k, rawInt i, rawInt 0], []⟩) (fun fin s' => match fin with | .done f => R (.ok f) s' | .again c' => c'.quiet = true ∧ codeAny (model prog w) A c' R s') (fun e s' => R (.error e) s') s := by
  induction L with
  | @done i hd =>
    intro prog w R h
    obtain ⟨hp, g, d, tk, os⟩ := s
    wp_walk using wpAny_loadPart' hl, wpAny_loadPart' hb
    have e : ((i : Nat) : Int).toNat = i := by simp
    rw [e]
    split
    · rename_i x y hxy
      obtain ⟨h1, h2⟩ := Prod.mk.inj hxy
      rcases hd with hd | hd
      · rw [hd] at h1; cases h1
      · rw [hd] at h2; cases h2
    · wp_walk using wpAny_loadPart' hl, wpAny_loadPart' hb
      exact h
  | @eq i x y b hx hy he hL ih =>
    intro prog w R h
    have ih := ih prog w R h
    obtain ⟨hp, g, d, tk, os⟩ := s
    wp_walk using wpAny_loadPart' hl, wpAny_loadPart' hb
    have e : ((i : Nat) : Int).toNat = i := by simp
    rw [e, hx, hy]
    refine wpAny_bind (he prog w _ _ ?_)
    have hc : ((i : Int) + 1) = ((i + 1 : Nat) : Int) := by push_cast; rfl
    wp_walk
    rw [hc]
    exact ⟨plainId_quiet plain_eq_loop _, codeAny_builtin entry_eq_loop (by
      rw [Around.under_plainId plain_eq_loop _]
      exact ih)⟩
  | @ne i x y b hx hy he hlt =>
    intro prog w R h
    obtain ⟨hp, g, d, tk, os⟩ := s
    wp_walk using wpAny_loadPart' hl, wpAny_loadPart' hb
    have e : ((i : Nat) : Int).toNat = i := by simp
    rw [e, hx, hy]
    refine wpAny_bind (he prog w _ _ ?_)
    wp_walk using wpAny_loadPart' hl, wpAny_loadPart' hb
    rw [hx, hy]
    dsimp only
    refine wpAny_bind (hlt prog w _ _ ?_)
    exact wpAny_pure h
theorem list_lt {l k : Addr} {xs ys : Array Value} {n n2 : Nat} {b : Bool} :
    Meets (Builtin.«list.__lt__» ⟨[.ref l, .ref k], []⟩) (fun A R s => s.heap.get? l = some (lobj xs n) ∧ s.heap.get? k = some (lobj ys n2) ∧ LexAt A.in1 s xs ys 0 b ∧ R (.ok (.ret (.bool b))) s) := by
  intro prog w A R s h
  obtain ⟨hp, g, d, tk, os⟩ := s; obtain ⟨hl, hb, hL, h⟩ := h
  have f3 := AutoSeq1.sub_list_list
  wp_walk using wpAny_loadPart' hl, wpAny_loadPart' hb
  exact ⟨plainId_quiet plain_eq_loop _, codeAny_builtin entry_eq_loop (by
    rw [Around.under_plainId plain_eq_loop _]
    exact lt_loop hl hb hL prog w R h)⟩
theorem tuple_lt {l k : Addr} {xs ys : Array Value} {n n2 : Nat} {b : Bool} :
    Meets (Builtin.«tuple.__lt__» ⟨[.ref l, .ref k], []⟩) (fun A R s => s.heap.get? l = some (tobj xs n) ∧ s.heap.get? k = some (tobj ys n2) ∧ LexAt A.in1 s xs ys 0 b ∧ R (.ok (.ret (.bool b))) s) := by
  intro prog w A R s h
  obtain ⟨hp, g, d, tk, os⟩ := s; obtain ⟨hl, hb, hL, h⟩ := h
  have f2 := AutoSeq1.sub_tuple_tuple
  wp_walk using wpAny_loadPart' hl, wpAny_loadPart' hb, wpAny_forIn_list _ (fun rest (c : Option PySem.Fin × Unit) s' => c.1 = none ∧ s' = ⟨hp, g, d, tk, os⟩ ∧ ∃ i, rest = (xs.toList.zip ys.toList).drop i ∧ LexAt A.in1 ⟨hp, g, d, tk, os⟩ xs ys i b) _
  case turn =>
    rintro ⟨y, x⟩ rest c s' ⟨hc, rfl, i, hz, hL⟩
    have hlt : i < (xs.toList.zip ys.toList).length := by
      rcases Nat.lt_or_ge i (xs.toList.zip ys.toList).length with h' | h'
      · exact h'
      · rw [List.drop_of_length_le h'] at hz; cases hz
    have h1 : i < xs.size := by simp at hlt; omega
    have h2 : i < ys.size := by simp at hlt; omega
    rw [List.drop_eq_getElem_cons hlt] at hz
    injection hz with hyx hrest
    have hy : y = xs[i] := by have := congrArg Prod.fst hyx; simpa using this
    have hx : x = ys[i] := by have := congrArg Prod.snd hyx; simpa using this
    cases hL with
    | done hd =>
      rcases hd with hd | hd
      · rw [Array.getElem?_eq_getElem h1] at hd; cases hd
      · rw [Array.getElem?_eq_getElem h2] at hd; cases hd
    | eq e1 e2 he hL =>
      rw [Array.getElem?_eq_getElem h1] at e1
      rw [Array.getElem?_eq_getElem h2] at e2
      cases e1
      cases e2
      subst hy hx
      refine wpAny_bind (he prog w _ _ ?_)
      wp_walk
      exact ⟨rfl, rfl, i + 1, hrest, hL⟩
    | ne e1 e2 he hlt' =>
      rw [Array.getElem?_eq_getElem h1] at e1
      rw [Array.getElem?_eq_getElem h2] at e2
      cases e1
      cases e2
      subst hy hx
      refine wpAny_bind (he prog w _ _ ?_)
      have hlt2 := hlt' prog w
      generalize richCompare .Lt xs[i] ys[i] = rc at hlt2 ⊢
      wp_walk using hlt2
      exact h
  case fin =>
    rintro ⟨b1, b2⟩ s' ⟨hc, rfl, i, hz, hL⟩
    simp only at hc
    subst hc
    have hge : (xs.toList.zip ys.toList).length ≤ i := by
      rcases Nat.lt_or_ge i (xs.toList.zip ys.toList).length with h' | h'
      · rw [List.drop_eq_getElem_cons h'] at hz; cases hz
      · exact h'
    have hge : min xs.size ys.size ≤ i := by simpa using hge
    cases hL with
    | done hd =>
      wp_walk
      simpa [Builtin.Tuple.tupleCompareSizes] using h
    | eq e1 e2 _ _ =>
      have q1 := (Array.getElem?_eq_some_iff.mp e1).1
      have q2 := (Array.getElem?_eq_some_iff.mp e2).1
      omega
    | ne e1 e2 _ _ =>
      have q1 := (Array.getElem?_eq_some_iff.mp e1).1
      have q2 := (Array.getElem?_eq_some_iff.mp e2).1
      omega
  case h => exact ⟨rfl, rfl, 0, rfl, hL⟩

/- ---- the same on plain data ---- -/
noncomputable def dLex (lt : D → D → Option Bool) : List D → List D → Option Bool
  | [], [] => some false
  | [], _ :: _ => some true
  | _ :: _, [] => some false
  | x :: xs, y :: ys => match deepB 6 x with
    | true => (match dEqB 6 x y with | true => dLex lt xs ys | false => lt x y)
    | false => none
noncomputable def dLtN : Nat → D → D → Option Bool
  | _, .int a, .int b => some (PySem.W.Z.ltB a b)
  | n + 1, .list a, .list b => dLex (dLtN n) a b
  | n + 1, .tuple a, .tuple b => dLex (dLtN n) a b
  | _, _, _ => none
theorem eq_at {A : Around} {s : Shared} {U : AS} {v w : Value} {a b : D} (hu : A.units + 10 < cLine) (ra : Rd U s.heap v a) (rb : Rd U s.heap w b) (hd : deepB 6 a = true) : EqAt A s v w (dEqB 6 a b) := by
  intro prog w' E Q hq
  obtain ⟨as, q1⟩ := ra.reads
  obtain ⟨bs, q2⟩ := rb.reads
  rw [dEqB_eqv 6 a b hd] at hq
  refine PySem.SeqAt.eqBoolOverData prog w' A E s v w a b as bs Q q1 q2 ra.canLay rb.canLay ?_ hq
  have h2 : min a.depth b.depth ≤ a.depth := Nat.min_le_left _ _
  have h3 := deepB_depth 6 a hd
  omega
theorem lex_at {A : Around} {s : Shared} {U : AS} {lt : D → D → Option Bool} (hu : A.units + 10 < cLine) (hlt : ∀ v w a b c, Rd U s.heap v a → Rd U s.heap w b → lt a b = some c → LtAt A s v w c) {xs ys : Array Value} :
    ∀ (ds es : List D) (i : Nat) (b : Bool), i ≤ xs.size → i ≤ ys.size → Rds U s.heap (xs.toList.drop i) ds → Rds U s.heap (ys.toList.drop i) es → dLex lt ds es = some b → LexAt A s xs ys i b
  | [], [], i, b, h1, h2, r1, r2, h => by
    have e1 := r1.length
    have e2 := r2.length
    simp at e1 e2
    cases h
    have := LexAt.done (A := A) (s := s) (xs := xs) (ys := ys) (i := i) (.inl r1.ended)
    rwa [decide_eq_false (by omega)] at this
  | [], e :: es, i, b, h1, h2, r1, r2, h => by
    have e1 := r1.length
    have e2 := r2.length
    simp at e1 e2
    cases h
    have := LexAt.done (A := A) (s := s) (xs := xs) (ys := ys) (i := i) (.inl r1.ended)
    rwa [decide_eq_true (by omega)] at this
  | d :: ds, [], i, b, h1, h2, r1, r2, h => by
    have e1 := r1.length
    have e2 := r2.length
    simp at e1 e2
    cases h
    have := LexAt.done (A := A) (s := s) (xs := xs) (ys := ys) (i := i) (.inr r2.ended)
    rwa [decide_eq_false (by omega)] at this
  | d :: ds, e :: es, i, b, h1, h2, r1, r2, h => by
    obtain ⟨x, hx, x1, x2⟩ := r1.split
    obtain ⟨y, hy, y1, y2⟩ := r2.split
    have l1 := (Array.getElem?_eq_some_iff.mp hx).1
    have l2 := (Array.getElem?_eq_some_iff.mp hy).1
    unfold dLex at h
    split at h
    · rename_i hd
      have he := eq_at hu x1 y1 hd
      split at h
      · rename_i hq
        rw [hq] at he
        exact .eq hx hy he (lex_at hu hlt ds es (i + 1) b l1 l2 x2 y2 h)
      · rename_i hq
        rw [hq] at he
        exact .ne hx hy he (hlt x y d e b x1 y1 h)
    · cases h
theorem lt_at {U : AS} : ∀ (n : Nat) {A : Around} {s : Shared} {v w : Value} {a b : D} {c : Bool}, A.units + 10 + 2 * n < cLine → Rd U s.heap v a → Rd U s.heap w b → dLtN n a b = some c → LtAt A s v w c := by
  intro n
  induction n with
  | zero =>
    intro A s v w a b c hu ra rb h
    cases ra with
    | int i t =>
      cases rb with
      | int j u =>
        simp only [dLtN, Option.some.injEq] at h
        subst h
        intro prog w' E Q hq
        rw [ltB_dec] at hq
        exact PyProof.Rows.lt_int hq
      | _ => simp [dLtN] at h
    | _ => simp [dLtN] at h
  | succ n ih =>
    intro A s v w a b c hu ra rb h
    have hu1 : A.units < cLine := by omega
    have hu2 : A.in1.units + 10 < cLine := by show A.units + 1 + 10 < _; omega
    have rcl : ∀ v w a b c, Rd U s.heap v a → Rd U s.heap w b → dLtN n a b = some c → LtAt A.in1 s v w c := fun v w a b c r1 r2 h => ih (by show A.units + 1 + 10 + 2 * n < _; omega) r1 r2 h
    cases ra with
    | int i t =>
      cases rb with
      | int j u =>
        simp only [dLtN, Option.some.injEq] at h
        subst h
        intro prog w' E Q hq
        rw [ltB_dec] at hq
        exact PyProof.Rows.lt_int hq
      | _ => simp [dLtN] at h
    | list hn hg hs =>
      cases rb with
      | list hn' hg' hs' =>
        simp only [dLtN] at h
        have L := lex_at hu2 rcl _ _ 0 c (Nat.zero_le _) (Nat.zero_le _) (by simpa using hs) (by simpa using hs') h
        intro prog w' E Q hq
        exact richCompare_meets_room (op := .Lt) ⟨_, hg, rfl⟩ ⟨_, hg', rfl⟩ F.slot_list_lt F.entry_list_lt (F.args_list_lt_2 _ _) list_lt ⟨hg, hg', L, show Value.bool c ≠ Value.notImplemented ∧ Q (.bool c) s from ⟨(fun x => nomatch x), hq⟩⟩ hu1
      | _ => simp [dLtN] at h
    | tuple hn hg hs =>
      cases rb with
      | tuple hn' hg' hs' =>
        simp only [dLtN] at h
        have L := lex_at hu2 rcl _ _ 0 c (Nat.zero_le _) (Nat.zero_le _) (by simpa using hs) (by simpa using hs') h
        intro prog w' E Q hq
        exact richCompare_meets_room (op := .Lt) ⟨_, hg, rfl⟩ ⟨_, hg', rfl⟩ F.slot_tuple_lt F.entry_tuple_lt (F.args_tuple_lt_2 _ _) tuple_lt ⟨hg, hg', L, show Value.bool c ≠ Value.notImplemented ∧ Q (.bool c) s from ⟨(fun x => nomatch x), hq⟩⟩ hu1
      | _ => simp [dLtN] at h
    | _ => simp [dLtN] at h
end Pf
namespace Pf
open PySem PySem.Calls PyProof.Rows PySem.W

/- ---- the order of the keys, as sorting asks it ---- -/
noncomputable def allInt : List D → Bool
  | [] => true
  | .int _ :: r => allInt r
  | _ => false
inductive KK where | tupInt | tupTup | lists
/-- the kind of the keys -/
noncomputable def kTupInt : List D → Bool
  | [] => true
  | .tuple (.int _ :: _) :: r => kTupInt r
  | _ => false
noncomputable def kTupTup : List D → Bool
  | [] => true
  | .tuple (.tuple _ :: _) :: r => kTupTup r
  | _ => false
noncomputable def kLists : List D → Bool
  | [] => true
  | .list _ :: r => kLists r
  | _ => false
noncomputable def kkOf (ks : List D) : Option KK := match kTupInt ks with
  | true => some .tupInt
  | false => (match kTupTup ks with | true => some .tupTup | false => (match kLists ks with | true => some .lists | false => none))
noncomputable def KK.kind : KK → SortKind
  | .tupInt => tuples' true
  | .tupTup => tuples' false
  | .lists => oneType'

theorem looks_obj {M : Model} {h : Heap} {a : Addr} {o : Obj} (e : h.get? a = some o) : Looks M h (typeOf (.ref a)) o.cls := (Looks.ld e).andThen .now
theorem tups_int {U : AS} {h : Heap} {M : Model} : ∀ {vs : List Value} {ks : List D}, Rds U h vs ks → kTupInt ks = true → ∃ fs, KatTups h vs fs ∧ fs.length = vs.length ∧ ∀ v ∈ fs, Looks M h (typeOf v) (.type "int")
  | _, _, .nil, _ => ⟨[], .nil, rfl, fun _ q => nomatch q⟩
  | _, _, .cons r1 r2, hk => by
    rename_i v vs d ds
    cases d with
    | tuple es =>
      cases es with
      | nil => simp [kTupInt] at hk
      | cons e es =>
        cases e with
        | int i =>
          obtain ⟨fs, h1, h2, h3⟩ := tups_int (M := M) r2 (by simpa [kTupInt] using hk)
          cases r1 with
          | tuple hn hg hs =>
            rename_i a ws n
            have hx := hs
            generalize hw : ws.toList = l at hx
            cases hx with
            | cons q1 q2 =>
              rename_i w ws'
              cases q1
              rename_i t
              have h0 : ws[0]? = some (.int i t) := by rw [← Array.getElem?_toList, hw]; rfl
              refine ⟨_ :: fs, .cons hg rfl rfl h0 h1, by simp [h2], fun v hv => ?_⟩
              rcases List.mem_cons.mp hv with rfl | hv
              · exact Looks.of_pure rfl
              · exact h3 v hv
        | _ => simp [kTupInt] at hk
    | _ => simp [kTupInt] at hk
theorem tups_tup {U : AS} {h : Heap} {M : Model} : ∀ {vs : List Value} {ks : List D}, Rds U h vs ks → kTupTup ks = true → ∃ fs, KatTups h vs fs ∧ fs.length = vs.length ∧ ∀ v ∈ fs, Looks M h (typeOf v) (.type "tuple")
  | _, _, .nil, _ => ⟨[], .nil, rfl, fun _ q => nomatch q⟩
  | _, _, .cons r1 r2, hk => by
    rename_i v vs d ds
    cases d with
    | tuple es =>
      cases es with
      | nil => simp [kTupTup] at hk
      | cons e es =>
        cases e with
        | tuple es' =>
          obtain ⟨fs, h1, h2, h3⟩ := tups_tup (M := M) r2 (by simpa [kTupTup] using hk)
          cases r1 with
          | tuple hn hg hs =>
            rename_i a ws n
            have hx := hs
            generalize hw : ws.toList = l at hx
            cases hx with
            | cons q1 q2 =>
              rename_i w ws'
              cases q1 with
              | tuple hn' hg' hs' =>
                rename_i a' ws2 n'
                have h0 : ws[0]? = some (.ref a') := by rw [← Array.getElem?_toList, hw]; rfl
                refine ⟨_ :: fs, .cons hg rfl rfl h0 h1, by simp [h2], fun v hv => ?_⟩
                rcases List.mem_cons.mp hv with rfl | hv
                · exact looks_obj hg'
                · exact h3 v hv
        | _ => simp [kTupTup] at hk
    | _ => simp [kTupTup] at hk
theorem looks_lists {U : AS} {h : Heap} {M : Model} : ∀ {vs : List Value} {ks : List D}, Rds U h vs ks → kLists ks = true → ∀ v ∈ vs, Looks M h (typeOf v) (.type "list")
  | _, _, .nil, _, v, hv => nomatch hv
  | _, _, .cons r1 r2, hk, v, hv => by
    rename_i v' vs d ds
    cases d with
    | list es =>
      rcases List.mem_cons.mp hv with rfl | hv
      · cases r1 with | list hn hg hs => exact looks_obj hg
      · exact looks_lists r2 (by simpa [kLists] using hk) v hv
    | _ => simp [kLists] at hk
theorem kind_at {M : Model} {A : Around} {E : Value → Shared → Prop} {s : Shared} {U : AS} {vs : List Value} {ks : List D} {Q : SortKind → Shared → Prop} {k : KK} (r : Rds U s.heap vs ks) (h2 : 2 ≤ vs.length) (hk : kkOf ks = some k) (h : Q k.kind s) : wpAny M A (keyKind' vs.toArray) Q E s := by
  unfold kkOf at hk
  split at hk
  · rename_i e
    cases hk
    obtain ⟨fs, t, l, hT⟩ := tups_int (M := M) r e
    exact kat_kind t (by omega) hT rfl h
  · split at hk
    · rename_i e
      cases hk
      obtain ⟨fs, t, l, hT⟩ := tups_tup (M := M) r e
      exact kat_kind t (by omega) hT rfl h
    · split at hk <;> cases hk
      rename_i e
      exact kas_kind h2 (looks_lists r e) rfl rfl h

/-- one question, asked of two keys of their kind -/
noncomputable def kkIs : KK → D → Bool
  | .tupInt, .tuple (.int _ :: _) => true
  | .tupTup, .tuple (.tuple _ :: _) => true
  | .lists, .list _ => true
  | _, _ => false
theorem katlex {prog : Program} {w : World} {A : Around} {s : Shared} {U : AS} {b : Bool} {m n : Nat} (hu : A.units + 30 < cLine) : ∀ (ds es : List D) (vs ws : List Value) (i : Nat) (c : Bool) (Q : Bool → Shared → Prop), (b = true → i = 0 → (∃ x r, ds = .int x :: r) ∧ ∃ y r, es = .int y :: r) →
    Rds U s.heap vs ds → Rds U s.heap ws es → m = i + vs.length → n = i + ws.length → dLex (dLtN 5) ds es = some c → Q c s → KatLex prog w A b (decide (m < n)) Q (vs.zip ws) i s := by
  intro ds
  induction ds with
  | nil =>
    intro es vs ws i c Q hb x y
    cases x
    cases y with
    | nil =>
      intro hm hn h hq
      cases h
      refine kat_nil ?_
      rwa [decide_eq_false (by simp at hm hn; omega)]
    | cons _ _ =>
      intro hm hn h hq
      cases h
      refine kat_nil ?_
      rwa [decide_eq_true (by simp at hm hn; omega)]
  | cons d ds ih =>
    intro es vs ws i c Q hb x y
    cases x with | cons x1 x2 =>
    cases y with
    | nil =>
      intro hm hn h hq
      cases h
      refine kat_nil ?_
      rwa [decide_eq_false (by simp at hm hn; omega)]
    | cons y1 y2 =>
      intro hm hn h hq
      unfold dLex at h
      split at h
      · rename_i hd
        have he := eq_at (A := A) (by omega) x1 y1 hd
        refine kat_cons (he prog w _ _ ?_)
        split at h
        · rename_i hq'
          rw [hq']
          exact kat_yes (ih _ _ _ (i + 1) c Q (fun _ q => by omega) x2 y2 (by simp at hm; omega) (by simp at hn; omega) h hq)
        · rename_i hq'
          rw [hq']
          refine kat_no ?_
          by_cases hb0 : (b && i == 0) = true
          · simp at hb0
            obtain ⟨⟨x, r, e1⟩, ⟨y, r', e2⟩⟩ := hb hb0.1 hb0.2
            cases e1
            cases e2
            cases x1
            cases y1
            simp only [dLtN, Option.some.injEq] at h
            rw [ltB_dec] at h
            rw [hb0.1, hb0.2]
            exact oneLt_int (h ▸ hq)
          · have hb1 : (b && i == 0) = false := by simpa using hb0
            rw [hb1]
            refine kat_one _ _ ?_
            exact lt_at 5 (A := A) (by omega) x1 y1 h prog w _ _ hq
      · cases h
theorem key_lt {prog : Program} {w : World} {A : Around} {E : Value → Shared → Prop} {s : Shared} {U : AS} {v v' : Value} {a b : D} {c : Bool} {k : KK} {Q : Bool → Shared → Prop} (hu : A.units + 40 < cLine) (ra : Rd U s.heap v a) (rb : Rd U s.heap v' b) (ka : kkIs k a = true) (kb : kkIs k b = true)
    (h : dLtN 6 a b = some c) (hq : Q c s) : wpAny (model prog w) A (keyLt' k.kind v v') Q E s := by
  cases k with
  | tupInt =>
    cases a with
    | tuple ds =>
      cases b with
      | tuple es =>
        cases ra with
        | tuple hn hg hs => cases rb with
          | tuple hn' hg' hs' =>
            refine kat_lt hg rfl hg' rfl ?_
            have l1 := hs.length
            have l2 := hs'.length
            refine katlex (U := U) (by omega) ds es _ _ 0 c Q (fun _ _ => ?_) hs hs' (by simp) (by simp) h hq
            cases ds with
            | nil => simp [kkIs] at ka
            | cons d ds => cases es with
              | nil => simp [kkIs] at kb
              | cons e es =>
                cases d <;> simp [kkIs] at ka
                cases e <;> simp [kkIs] at kb
                exact ⟨⟨_, _, rfl⟩, _, _, rfl⟩
      | _ => simp [kkIs] at kb
    | _ => simp [kkIs] at ka
  | tupTup =>
    cases a with
    | tuple ds =>
      cases b with
      | tuple es =>
        cases ra with
        | tuple hn hg hs => cases rb with
          | tuple hn' hg' hs' =>
            refine kat_lt hg rfl hg' rfl ?_
            exact katlex (U := U) (by omega) ds es _ _ 0 c Q (fun q => by cases q) hs hs' (by simp) (by simp) h hq
      | _ => simp [kkIs] at kb
    | _ => simp [kkIs] at ka
  | lists =>
    cases a with
    | list ds =>
      cases b with
      | list es =>
        cases ra with
        | list hn hg hs => cases rb with
          | list hn' hg' hs' =>
            show wpAny _ A (keyLt' oneType' _ _) Q E s
            rw [keyLt'_oneType, oneLt'_eq]
            simp only [if_true]
            refine wpAny_bind (wpAny_cRoomFor (by omega) ?_)
            have hu2 : A.in1.units + 10 < cLine := by show A.units + 1 + 10 < _; omega
            have L := lex_at (A := A.in1) hu2 (fun v w a b c r1 r2 h => lt_at 5 (A := A.in1) (by show A.units + 1 + 10 + 2 * 5 < _; omega) r1 r2 h) _ _ 0 c (Nat.zero_le _) (Nat.zero_le _) (by simpa using hs) (by simpa using hs') h
            refine wpAny_bind (wpAny_callSpecialIfBound?_slot ⟨_, hg, rfl⟩ F.slot_list_lt (call_meets F.slot_list_lt ⟨_, hg, rfl⟩ F.entry_list_lt (F.args_list_lt_2 _ _) list_lt ⟨hg, hg', L, ?_⟩))
            exact wpAny_truthy_bool hq
      | _ => simp [kkIs] at kb
    | _ => simp [kkIs] at ka

/- ---- the tree of questions, on plain data ---- -/
noncomputable def runT {α : Type} (cmp : Nat → Nat → Option Bool) : KasT α → Option α
  | .ret a => some a
  | .ask i j k => match cmp i j with
    | some true => runT cmp (k true)
    | some false => runT cmp (k false)
    | none => none
theorem runT_ok {α : Type} {cmp : Nat → Nat → Option Bool} {C : Nat → Nat → (Bool → Shared → Prop) → Shared → Prop} {G : α → Shared → Prop} {s : Shared} (hc : ∀ i j b (R : Bool → Shared → Prop), cmp i j = some b → R b s → C i j R s) :
    ∀ (t : KasT α) (a : α), runT cmp t = some a → G a s → t.kasWp C G s
  | .ret a, b, h, hg => by cases h; exact hg
  | .ask i j k, b, h, hg => by
    unfold runT at h
    split at h
    · rename_i e; exact hc i j true _ e (runT_ok hc (k true) b h hg)
    · rename_i e; exact hc i j false _ e (runT_ok hc (k false) b h hg)
    · cases h
noncomputable def kkAll (k : KK) : List D → Bool
  | [] => true
  | d :: r => match kkIs k d with | true => kkAll k r | false => false
theorem kkAll_get {k : KK} : ∀ {l : List D} {i : Nat} {d : D}, kkAll k l = true → l[i]? = some d → kkIs k d = true
  | a :: r, 0, d, h, e => by
    unfold kkAll at h
    split at h
    · simp at e; subst e; assumption
    · cases h
  | a :: r, i + 1, d, h, e => by
    unfold kkAll at h
    split at h
    · exact kkAll_get h (by simpa using e)
    · cases h
noncomputable def dCmp (ks : List D) (i j : Nat) : Option Bool := match ks[i]? with
  | some a => (match ks[j]? with | some b => dLtN 6 a b | none => none)
  | none => none
/-- the order in which the items stand when sorted by their keys -/
noncomputable def dSortP (ks : List D) : Option (List Nat) := match Nat.ble ks.length 1 with
  | true => some (List.range ks.length)
  | false => (match Nat.blt ks.length 64 with
    | true => (match kkOf ks with
      | some k => (match kkAll k ks with
        | true => (match runT (dCmp ks) (kas_sort ks.length) with | some p => some p.toList | none => none)
        | false => none)
      | none => none)
    | false => none)
noncomputable def pickL (ds : List D) : List Nat → List D
  | [] => []
  | i :: r => (match ds[i]? with | some d => d | none => .none) :: pickL ds r
theorem ask_ok {prog : Program} {w : World} {A : Around} {s : Shared} {U : AS} {vs : List Value} {ks : List D} {k : KK} (hu : A.units + 40 < cLine) (r : Rds U s.heap vs ks) (ha : kkAll k ks = true) (i j : Nat) (b : Bool) (R : Bool → Shared → Prop) (h : dCmp ks i j = some b) (hR : R b s) : kas_ask prog w A k.kind vs i j R s := by
  unfold dCmp at h
  split at h
  · rename_i a ea
    split at h
    · rename_i c ec
      obtain ⟨v, hv, rv⟩ := r.get ea
      obtain ⟨v', hv', rv'⟩ := r.get ec
      unfold kas_ask
      have e1 : vs.getD i Value.none = v := by rw [List.getD_eq_getElem?_getD, hv]; rfl
      have e2 : vs.getD j Value.none = v' := by rw [List.getD_eq_getElem?_getD, hv']; rfl
      rw [e1, e2]
      exact key_lt hu rv rv' (kkAll_get ha ea) (kkAll_get ha ec) h hR
    · cases h
  · cases h
theorem pick_rd {U : AS} {h : Heap} {vs : List Value} {ds : List D} (r : Rds U h vs ds) : ∀ (p : List Nat), Rds U h (p.map fun i => vs.getD i Value.none) (pickL ds p)
  | [] => .nil
  | i :: p => by
    refine .cons ?_ (pick_rd r p)
    dsimp only
    rw [List.getD_eq_getElem?_getD]
    cases e : ds[i]? with
    | some d =>
      obtain ⟨v, hv, rv⟩ := r.get e
      rw [hv]; exact rv
    | none =>
      have : vs[i]? = Option.none := by rw [List.getElem?_eq_none_iff] at e ⊢; rw [r.length]; exact e
      rw [this]; exact .none
theorem pick_range {α : Type} (l : List α) (d : α) : (List.range l.length).map (fun i => l.getD i d) = l := by
  apply List.ext_getElem
  · simp
  · intro i h1 h2
    simp at h1
    simp [h1]
end Pf

namespace Pf
open PySem PySem.Calls PyProof.Rows PySem.W

theorem run_core {prog : Program} {w : World} {A : Around} {E : Value → Shared → Prop} {s : Shared} {U : AS} {ks vs : List Value} {kds : List D} {p : List Nat} (hu : A.units + 40 < cLine) (hl : ks.length = vs.length) (r : Rds U s.heap ks kds) (hp : dSortP kds = some p) {K : Unit × SortSt → Sem PySem.Fin} {P : PySem.Fin → Shared → Prop}
    (hK : ∀ st, (arrOf st).map (·.2) = List.toArray (p.map fun i => vs.getD i Value.none) → failedOf st = none → p.length = vs.length → wpAny (model prog w) A (K ((), st)) P E s) :
    wpAny (model prog w) A (if vs.toArray.size < 2 then (pure general' >>= fun kind => (if vs.toArray.size < 2 then pure () else sortRuns').run (SortSt.mk' kind (ks.toArray.zip vs.toArray) #[] 7 none) >>= fun x => K x)
      else (keyKind' ks.toArray >>= fun kind => (if vs.toArray.size < 2 then pure () else sortRuns').run (SortSt.mk' kind (ks.toArray.zip vs.toArray) #[] 7 none) >>= fun x => K x)) P E s := by
  have l1 := r.length
  unfold dSortP at hp
  split at hp
  · rename_i hle
    have hle := Nat.le_of_ble_eq_true hle
    cases hp
    have h2 : vs.toArray.size < 2 := by rw [List.size_toArray]; omega
    rw [if_pos h2, if_pos h2]
    refine wpAny_bind (wpAny_pure ?_)
    rw [StateT.run_pure]
    refine wpAny_bind (wpAny_pure ?_)
    refine hK _ ?_ rfl (by simp; omega)
    show (ks.toArray.zip vs.toArray).map (·.2) = _
    have e : kds.length = vs.length := by omega
    rw [e, pick_range]
    apply Array.toList_inj.mp
    rw [Array.toList_map, ksk_zip]
    exact map_snd_zip ks vs hl
  · rename_i hle
    have hle : ¬ kds.length ≤ 1 := fun q => by rw [Nat.ble_eq_true_of_le q] at hle; cases hle
    split at hp
    · rename_i h64
      have h64 := (PySem.W.Z.blt_iff).mp h64
      split at hp
      · rename_i k hkk
        split at hp
        · rename_i hall
          split at hp <;> cases hp
          rename_i pa hrun
          have h2 : ¬ vs.toArray.size < 2 := by rw [List.size_toArray]; omega
          rw [if_neg h2, if_neg h2]
          refine wpAny_bind (kind_at r (by omega) hkk ?_)
          have hrun' : runT (dCmp kds) (kas_sort vs.length) = some pa := by rw [← hl, l1]; exact hrun
          have hwp : (kas_sort vs.length).kasWp (kas_ask prog w A k.kind ks) (fun p' s' => p' = pa ∧ s' = s) s := runT_ok (fun i j b R h hR => ask_ok hu r hall i j b R h hR) _ _ hrun' ⟨rfl, rfl⟩
          refine wpAny_bind (wpAny_mono (kat_run (E := E) (Q := fun st' s' => (arrOf st').map (·.2) = List.toArray (pa.toList.map fun i => vs.getD i Value.none) ∧ failedOf st' = none ∧ pa.size = vs.length ∧ s' = s) hl (by omega) (by omega) (fun p' st' s' a1 a2 a3 a4 => ?_) hwp) ?_ fun _ _ x => x)
          · obtain ⟨e1, e2⟩ := a4
            subst e1
            exact ⟨kat_snds hl a2, a3, a1, e2⟩
          · rintro ⟨⟨⟩, st'⟩ s' ⟨q1, q2, q3, rfl⟩
            exact hK st' q1 q2 (by simpa using q3)
        · cases hp
      · cases hp
    · cases hp

noncomputable def mapO (K : D → Option D) : List D → Option (List D)
  | [] => some []
  | d :: r => match K d with
    | some k => (match mapO K r with | some ks => some (k :: ks) | none => none)
    | none => none
noncomputable def fSortK (K : D → Option D) (ds : List D) : Option (List D) := match short ds with
  | true => (match mapO K ds with
    | some ks => (match dSortP ks with | some p => some (pickL ds p) | none => none)
    | none => none)
  | false => none
noncomputable def fSort (ds : List D) : Option (List D) := match short ds with
  | true => (match dSortP ds with | some p => some (pickL ds p) | none => none)
  | false => none
noncomputable def KeyFn (G : Gx) (n : Nat) (f : Value) (K : D → Option D) : Prop :=
  ∀ A X s v d k (Q : Value → Shared → Prop), A.handled = none → Room A n → (∀ b o, G.h0.get? b = some o → s.heap.get? b = some o ∧ ¬ X b) → (∀ a, X a → ∃ o, s.heap.get? a = some o) → Rd X s.heap v d → K d = some k → (∀ v' s', Keeps s s' → Rd X s'.heap v' k → Q v' s') → W G A (call f [v]) Q s

theorem room_in2 {A : Around} {n : Nat} (h : Room A (n + 1)) : Room A.in1.in1 n := ⟨by have := h.1; show A.depth + n + 10 ≤ _; omega, by have := h.2; show A.units + 1 + 1 + 20 * n + 300 ≤ _; omega⟩

theorem keys_loop {G : Gx} {n : Nat} {f : Value} {K : D → Option D} (hf : KeyFn G n f K) {A : Around} (hA : A.handled = none) (hR : Room A n) {X : AS} {kS : Addr} (hX : X kS) {E : Value → Shared → Prop} {body : Value → PUnit → Sem (ForInStep PUnit)}
    (hb : ∀ x (ks : List Value) e (s : Shared) (C : Value → Shared → Prop), ks.length < 4200 → W G A (call f [x]) (fun k s' => s'.heap.get? kS = some (seqObj "list" (List.toArray ks) e) ∧ C k s') s →
      wpAny (model G.prog G.w) A (body x ⟨⟩) (fun r s' => r = .yield ⟨⟩ ∧ ∃ k c s₁, C k s₁ ∧ s' = { s₁ with heap := s'.heap } ∧ s'.heap.get? kS = some (seqObj "list" (List.toArray (ks ++ [k])) c) ∧ ∀ b o, b ≠ kS → s₁.heap.get? b = some o → s'.heap.get? b = some o) E s)
    {s₀ : Shared} : ∀ (xs : List Value) (ds : List D) (ks : List Value) (kds kds' : List D) (e : Nat) (s : Shared), ks.length + xs.length ≤ 4100 → s.heap.get? kS = some (seqObj "list" (List.toArray ks) e) → (∃ h' tk, s = { s₀ with heap := h', toks := tk }) → (∀ b o, b ≠ kS → s₀.heap.get? b = some o → s.heap.get? b = some o) →
      (∀ b o, G.h0.get? b = some o → s₀.heap.get? b = some o ∧ ¬ X b) → (∀ a, X a → ∃ o, s₀.heap.get? a = some o) → Rds X s.heap xs ds → Rds X s.heap ks kds → mapO K ds = some kds' →
      wpAny (model G.prog G.w) A (forIn xs PUnit.unit body) (fun _ s' => ∃ ks' e', (∃ h' tk, s' = { s₀ with heap := h', toks := tk }) ∧ s'.heap.get? kS = some (seqObj "list" (List.toArray ks') e') ∧ ks'.length = ks.length + xs.length ∧ (∀ b o, b ≠ kS → s₀.heap.get? b = some o → s'.heap.get? b = some o) ∧ Rds X s'.heap ks' (kds ++ kds')) E s
  | [], ds, ks, kds, kds', e, s, hl, hk, sh, kp, base, xl, rx, rk, hm => by
    cases rx
    cases hm
    rw [List.forIn_nil]
    exact wpAny_pure ⟨ks, e, sh, hk, by simp, kp, by simpa using rk⟩
  | x :: xs, ds, ks, kds, kds', e, s, hl, hk, sh, kp, base, xl, rx, rk, hm => by
    cases rx with
    | cons r1 r2 =>
      rename_i d ds
      simp only [mapO] at hm
      split at hm
      · rename_i k hK
        split at hm <;> cases hm
        rename_i kr hm
        rw [List.forIn_cons]
        have nb : ∀ b o, G.h0.get? b = some o → b ≠ kS := fun b o e q => (base b o e).2 (q ▸ hX)
        have step := hb x ks e s (fun k' s' => Keeps s s' ∧ Rd X s'.heap k' k) (by simp at hl; omega) (hf A X s x d k _ hA hR (fun b o e => ⟨kp b o (nb b o e) (base b o e).1, (base b o e).2⟩) (fun a q => by
          by_cases q' : a = kS
          · exact ⟨_, q' ▸ hk⟩
          · obtain ⟨o, e⟩ := xl a q; exact ⟨o, kp a o q' e⟩) r1 hK fun v' s' K' r' => ⟨keeps_get K' _ _ hk, K', r'⟩)
        refine wpAny_bind (wpAny_mono step (fun q s' hq => ?_) fun _ _ x => x)
        obtain ⟨rfl, k', c, s₁, ⟨K', rk'⟩, es, hk', kp'⟩ := hq
        show wpAny (model G.prog G.w) A (forIn xs PUnit.unit body) _ E s'
        have mv : ∀ {v d}, Rd X s₁.heap v d → Rd X s'.heap v d := fun r => r.mono (fun _ q => q) fun b o q e => kp' b o (fun z => q (z ▸ hX)) e
        have mvs : ∀ {v d}, Rds X s₁.heap v d → Rds X s'.heap v d := fun r => r.mono (fun _ q => q) fun b o q e => kp' b o (fun z => q (z ▸ hX)) e
        have := keys_loop hf hA hR hX hb (s₀ := s₀) xs ds (ks ++ [k']) (kds ++ [k]) kr c s' (by simp at hl ⊢; omega) hk' (shape_trans (shape_trans sh (keeps_shape K')) ⟨s'.heap, s₁.toks, es⟩) (fun b o hb e => kp' b o hb (keeps_get K' b o (kp b o hb e))) base xl (mvs (r2.kept (keeps_get K'))) ((mvs (rk.kept (keeps_get K'))).append (.cons (mv rk') .nil)) hm
        refine wpAny_mono this (fun _ s'' hd => ?_) fun _ _ x => x
        obtain ⟨ks', e', h1, h2, h3, h4, h5⟩ := hd
        exact ⟨ks', e', h1, h2, by simp at h3 ⊢; omega, h4, by simpa using h5⟩
      · cases hm
/-- what sorted() finds in the heap before it sorts -/
theorem sorted_open {prog : Program} {w : World} {A : Around} {E : Value → Shared → Prop} {s : Shared} {l : Addr} {vs : List Value} {c : Nat} {kw : List (Str × Value)} {Q : Value → Shared → Prop} (hg : s.heap.get? l = some (lobj vs.toArray c)) (hsz : vs.length ≤ 4096)
    (ha1 : argsOk "sorted" ⟨[.ref l], kw⟩) (ha2 : ∀ x, argsOk "list.sort" ⟨[.ref x], kw⟩)
    (h : ∀ D h₁, (∀ b o, s.heap.get? b = some o → h₁.get? b = some o) → s.heap.get? D = none → h₁.get? D = some (seqObj "list" vs.toArray 0) →
      wpAny (model prog w) A.in1.in1 (Builtin.«list.sort» ⟨[.ref D], kw⟩) (fun fin s' => fin = .done (.ret .none) ∧ Q (.ref D) s') (fun _ _ => False) { s with heap := h₁ }) :
    wpAny (model prog w) A (call (.builtin "sorted") [.ref l] kw) Q E s := by
  refine call_function_entry_kw kind_sorted plain_sorted entry_sorted ha1 ?_
  unfold Builtin.«sorted»
  refine wpAny_bind (m := checkCount "sorted" 1 1 _) (wpAny_pure ?_)
  refine wpAny_bind (collect_list (IsList_of hg) ?_ (by rw [sizeLine_eq]; omega))
  refine wpAny_bind (wpAny_newList ?_ (by rw [sizeLine_eq]; omega))
  have hsz' : ((s.heap.push (seqObj "list" #[] 0)).update s.heap.objs.size (Obj.mapSeq (· ++ vs.toArray))).objs.size = s.heap.objs.size + 1 := by
    rw [Heap.size_update, size_push']
  have hoL : (((s.heap.push (seqObj "list" #[] 0)).update s.heap.objs.size (Obj.mapSeq (· ++ vs.toArray))).push (seqObj "list" vs.toArray 0)).get? (s.heap.objs.size + 1) = some (seqObj "list" vs.toArray 0) := by
    rw [← hsz']; exact Heap.get?_push_size _ rfl
  have keep : ∀ b o, s.heap.get? b = some o → (((s.heap.push (seqObj "list" #[] 0)).update s.heap.objs.size (Obj.mapSeq (· ++ vs.toArray))).push (seqObj "list" vs.toArray 0)).get? b = some o := fun b o q =>
    Heap.get?_push_of_some _ ((Heap.get?_update_other _ _ (Nat.ne_of_gt (Heap.lt_size q))).trans (Heap.get?_push_of_some _ q))
  show wpAny _ _ _ _ _ { s with heap := ((s.heap.push (seqObj "list" #[] 0)).update s.heap.objs.size (Obj.mapSeq (· ++ vs.toArray))).push (seqObj "list" vs.toArray 0) }
  rw [hsz']
  have hn : s.heap.get? (s.heap.objs.size + 1) = none := by
    cases e : s.heap.get? (s.heap.objs.size + 1) with
    | none => rfl
    | some o => exact absurd (Nat.lt_of_succ_lt (Heap.lt_size e)) (Nat.lt_irrefl _)
  refine wpAny_bind (wpAny_holding (wpAny_call_entry_kw slot_list_sort ⟨_, hoL, rfl⟩ entry_list_sort ?body (ha2 _)))
  case body =>
    refine wpAny_mono (h _ _ keep hn hoL) (fun fin s' hq => ?_) fun _ _ f => f.elim
    obtain ⟨rfl, hq⟩ := hq
    exact ⟨_, rfl, wpAny_pure ⟨_, rfl, hq⟩⟩

theorem upd_keep {h : Heap} {a : Addr} (f : Obj → Obj) {b : Addr} {o : Obj} (hb : b ≠ a) (e : h.get? b = some o) : (h.update a f).get? b = some o := (Heap.get?_update_other _ _ (Ne.symm hb)).trans e
theorem upd_none {h : Heap} {a b : Addr} {o : Obj} (hb : h.get? b = none) (ha : h.get? a = some o) : a ≠ b := fun e => by rw [e, hb] at ha; cases ha

theorem bl_sort (G : Gx) (n : Nat) : BlO G n (.builtin "sorted") (fun ds => match ds with | [.list ds] => fSort ds | _ => none) := by
  intro A U s vs ds es Q hA hR r hF k
  dsimp only at hF
  split at hF
  · rename_i ds
    cases r with
    | cons r1 r2 =>
      cases r2
      obtain ⟨a, ws, c, rfl, hg, hr⟩ := r1.list
      unfold fSort at hF
      split at hF
      · rename_i hs
        split at hF <;> cases hF
        rename_i p hp
        have l1 := hr.length
        have l2 := short_le hs
        have hu : A.in1.in1.units + 40 < cLine := by
          have := hR.2
          show A.units + 1 + 1 + 40 < _
          omega
        refine sorted_open (vs := ws.toList) (c := c) (by simpa using hg) (by omega) (args_sorted1 _) (fun x => args_list_sort _) fun D h₁ keep hn hD => ?_
        rw [list_sort_plain]
        refine wpAny_bind (listItems_at hD rfl ?_)
        refine wpAny_bind (listUpdate_at hD rfl ?_ (by rw [List.size_toArray, sizeLine_eq]; omega) (Nat.zero_le _))
        obtain ⟨e1, ho1⟩ : ∃ e1, (h₁.update D (Obj.mapSeq fun _ => (#[] : Array Value))).get? D = some (seqObj "list" #[] e1) := ⟨_, get?_update_seq hD fun _ => #[]⟩
        refine wpAny_bind (seqEpoch_at ho1 rfl ?_)
        refine wpAny_bind (wpAny_newTuple ?_ (by show ws.toList.length ≤ _; rw [sizeLine_eq]; omega))
        refine wpAny_bind (wpAny_newList ?_ (Nat.zero_le _))
        refine wpAny_holding ?_
        dsimp only
        generalize hH : ((h₁.update D (Obj.mapSeq fun _ => (#[] : Array Value))).push _).push _ = H
        have kpH : ∀ b o, b ≠ D → h₁.get? b = some o → H.get? b = some o := fun b o hb e => by rw [← hH]; exact Heap.get?_push_of_some _ (Heap.get?_push_of_some _ (upd_keep _ hb e))
        have hDH : H.get? D = some (seqObj "list" #[] e1) := by rw [← hH]; exact Heap.get?_push_of_some _ (Heap.get?_push_of_some _ ho1)
        have hrH : Rds (fun b => U b ∨ b = D) H ws.toList ds := (hr.fresh hn).mono (fun _ q => q) fun b o q e => kpH b o (fun z => q (.inr z)) (keep b o e)
        refine run_core (s := { s with heap := H }) hu rfl hrH hp fun st hout hf hpl => ?_
        have hsz : (List.toArray (p.map fun i => ws.toList.getD i Value.none)).size ≤ 4096 := by rw [List.size_toArray, List.length_map]; omega
        rw [hout]
        refine wpAny_bind (seqEpoch_at hDH rfl ?_)
        refine wpAny_bind (listUpdate_at hDH rfl ?_ (Nat.zero_le _) (Nat.le_trans hsz (by rw [sizeLine_eq]; omega)))
        rw [hf]
        simp only [bne_self_eq_false, Bool.false_eq_true, if_false]
        obtain ⟨c2, hc2⟩ : ∃ c2, (H.update D (Obj.mapSeq fun _ => List.toArray (p.map fun i => ws.toList.getD i Value.none))).get? D = some (seqObj "list" (List.toArray (p.map fun i => ws.toList.getD i Value.none)) c2) := ⟨_, get?_update_seq hDH fun _ => List.toArray (p.map fun i => ws.toList.getD i Value.none)⟩
        refine wpAny_pure ⟨rfl, k D _ c2 _ (keeps_heap fun b o e => upd_keep _ (fun z => by rw [z, hn] at e; cases e) (kpH b o (fun z => by rw [z, hn] at e; cases e) (keep b o e))) hn hc2 ?_⟩
        have := (pick_rd hrH p).mono (h' := H.update D (Obj.mapSeq fun _ => List.toArray (p.map fun i => ws.toList.getD i Value.none))) (fun _ q => q) fun b o q e => upd_keep _ (fun z => q (.inr z)) e
        simpa using this
      · cases hF
  · cases hF

theorem mapO_length {K : D → Option D} : ∀ {l ks : List D}, mapO K l = some ks → ks.length = l.length
  | [], ks, h => by cases h; rfl
  | d :: r, ks, h => by
    simp only [mapO] at h
    split at h
    · split at h <;> cases h
      rename_i kr hm
      simp [mapO_length hm]
    · cases h
/-- sorted(x, key=f) -/
theorem sorted_key {G : Gx} {n : Nat} {q : Addr} {K : D → Option D} (hf : KeyFn G n (.ref q) K) {A : Around} {U : AS} {s : Shared} {a : Addr} {ws : Array Value} {c : Nat} {ds es : List D} {Q : Value → Shared → Prop} (hA : A.handled = none) (hR : Room A (n + 1))
    (base : ∀ b o, G.h0.get? b = some o → s.heap.get? b = some o ∧ ¬ U b) (ul : ∀ a, U a → ∃ o, s.heap.get? a = some o) (hg : s.heap.get? a = some (lobj ws c)) (hr : Rds U s.heap ws.toList ds) (hF : fSortK K ds = some es)
    (k : ∀ a ws c s', Keeps s s' → s.heap.get? a = none → s'.heap.get? a = some (lobj ws c) → Rds (fun b => U b ∨ b = a) s'.heap ws.toList es → Q (.ref a) s') :
    W G A (call (.builtin "sorted") [.ref a] [(Str.ofString "key", .ref q)]) Q s := by
  unfold fSortK at hF
  split at hF
  · rename_i hs
    split at hF
    · rename_i kds hm
      split at hF <;> cases hF
      rename_i p hp
      have l1 := hr.length
      have l2 := short_le hs
      have hu : A.in1.in1.units + 40 < cLine := by
        have := hR.2
        show A.units + 1 + 1 + 40 < _
        omega
      refine sorted_open (vs := ws.toList) (c := c) (by simpa using hg) (by omega) (ksk_s1 _ _) (fun x => ksk_l1 _ _) fun D h₁ keep hn hD => ?_
      rw [ksk_t1]
      unfold ksk_tree
      refine wpAny_bind (listItems_at hD rfl ?_)
      refine wpAny_bind (listUpdate_at hD rfl ?_ (by rw [List.size_toArray, sizeLine_eq]; omega) (Nat.zero_le _))
      obtain ⟨e1, ho1⟩ : ∃ e1, (h₁.update D (Obj.mapSeq fun _ => (#[] : Array Value))).get? D = some (seqObj "list" #[] e1) := ⟨_, get?_update_seq hD fun _ => #[]⟩
      refine wpAny_bind (seqEpoch_at ho1 rfl ?_)
      refine wpAny_bind (wpAny_newTuple ?_ (by show ws.toList.length ≤ _; rw [sizeLine_eq]; omega))
      refine wpAny_bind (wpAny_newList ?_ (Nat.zero_le _))
      refine wpAny_holding ?_
      dsimp only
      have hsz0 : ((h₁.update D (Obj.mapSeq fun _ => (#[] : Array Value))).push { cls := .type "tuple", data := .seq ws.toList.toArray }).objs.size = h₁.objs.size + 1 := by rw [Heap.size_push, Heap.size_update]
      have hkS : (((h₁.update D (Obj.mapSeq fun _ => (#[] : Array Value))).push { cls := .type "tuple", data := .seq ws.toList.toArray }).push { cls := .type "list", data := .seq ([] : List Value).toArray }).get? (((h₁.update D (Obj.mapSeq fun _ => (#[] : Array Value))).push { cls := .type "tuple", data := .seq ws.toList.toArray }).objs.size) = some (seqObj "list" (List.toArray []) 0) := Heap.get?_push_size _ rfl
      generalize hkSe : ((h₁.update D (Obj.mapSeq fun _ => (#[] : Array Value))).push { cls := .type "tuple", data := .seq ws.toList.toArray }).objs.size = kS at hkS hsz0 ⊢
      generalize hH : ((h₁.update D (Obj.mapSeq fun _ => (#[] : Array Value))).push { cls := .type "tuple", data := .seq ws.toList.toArray }).push { cls := .type "list", data := .seq ([] : List Value).toArray } = H at hkS ⊢
      have kpH : ∀ b o, b ≠ D → h₁.get? b = some o → H.get? b = some o := fun b o hb e => by rw [← hH]; exact Heap.get?_push_of_some _ (Heap.get?_push_of_some _ (upd_keep _ hb e))
      have hDH : H.get? D = some (seqObj "list" #[] e1) := by rw [← hH]; exact Heap.get?_push_of_some _ (Heap.get?_push_of_some _ ho1)
      have h1kS : h₁.get? kS = none := by
        cases e : h₁.get? kS with
        | none => rfl
        | some o => have := Heap.lt_size e; rw [hsz0] at this; exact absurd (Nat.lt_of_succ_lt this) (Nat.lt_irrefl _)
      have hDk : D ≠ kS := upd_none h1kS hD
      have nD : ∀ b o, s.heap.get? b = some o → b ≠ D := fun b o e z => by rw [z, hn] at e; cases e
      have nK : ∀ b o, s.heap.get? b = some o → b ≠ kS := fun b o e z => by rw [z] at e; rw [keep _ _ e] at h1kS; cases h1kS
      have hsk : s.heap.get? kS = none := by
        cases e : s.heap.get? kS with
        | none => rfl
        | some o => exact absurd rfl (nK _ o e)
      have X : AS := fun b => U b ∨ b = D ∨ b = kS
      have hrH : Rds (fun b => U b ∨ b = D ∨ b = kS) H ws.toList ds := (hr.avoid (Y := fun b => b = D ∨ b = kS) fun b o q e => q.elim (fun q => absurd q (nD b o e)) fun q => absurd q (nK b o e)).mono (fun _ q => q) fun b o q e => kpH b o (fun z => q (.inr (.inl z))) (keep b o e)
      unfold ksk_rest
      refine wpAny_bind (wpAny_rule ?_)
      first
        | rw [List.forIn_toArray]
        | (rw [← Array.forIn_toList]; simp only [List.toList_toArray])
        | rw [← Array.forIn_toList]
      have base' : ∀ b o, G.h0.get? b = some o → H.get? b = some o ∧ ¬ (U b ∨ b = D ∨ b = kS) := fun b o e => by
        obtain ⟨q1, q2⟩ := base b o e
        refine ⟨kpH b o (nD b o q1) (keep b o q1), fun q => ?_⟩
        rcases q with q | q | q
        · exact q2 q
        · exact nD b o q1 q
        · exact nK b o q1 q
      have ul' : ∀ b, (U b ∨ b = D ∨ b = kS) → ∃ o, H.get? b = some o := fun b q => by
        rcases q with q | q | q
        · obtain ⟨o, e⟩ := ul b q; exact ⟨o, kpH b o (nD b o e) (keep b o e)⟩
        · exact ⟨_, q ▸ hDH⟩
        · exact ⟨_, q ▸ hkS⟩
      have R2 := room_in2 hR
      refine wpAny_bind (wpAny_mono (keys_loop hf (A := A.in1.in1) hA R2 (X := fun b => U b ∨ b = D ∨ b = kS) (kS := kS) (.inr (.inr rfl)) (fun x ks e s' C hz hx => ?_) (s₀ := { s with heap := H }) ws.toList ds [] [] kds 0 { s with heap := H } (by simp; simp at l1; omega) hkS ⟨_, _, rfl⟩ (fun _ _ _ e => e) base' ul' hrH .nil hm) (fun _ s' hd => ?_) fun _ _ x => x)
      · refine wpAny_bind (wpAny_attempt (wpAny_mono hx (fun k s'' hk => ?_) fun _ _ hF => hF.elim))
        obtain ⟨nk, hC⟩ := hk
        have ea : (List.toArray ks).push k = List.toArray (ks ++ [k]) := by simp
        obtain ⟨c2, hc2⟩ : ∃ c2, (s''.heap.update kS (Obj.mapSeq (·.push k))).get? kS = some (seqObj "list" (List.toArray (ks ++ [k])) c2) := ⟨_, by rw [← ea]; exact get?_update_seq nk (·.push k)⟩
        try dsimp only
        refine wpAny_bind (listUpdate_at nk rfl ?_ (by rw [List.size_toArray, sizeLine_eq]; omega) (Nat.le_trans (Nat.le_of_eq (Array.size_push ..)) (by rw [List.size_toArray, sizeLine_eq]; omega)))
        exact wpAny_pure ⟨rfl, k, c2, s'', hC, rfl, hc2, fun b o hb e => upd_keep _ hb e⟩
      · obtain ⟨ks, e2, ⟨h', tk, rfl⟩, hk', hl', kp', rk⟩ := hd
        try dsimp only
        refine wpAny_bind (listItems_at hk' rfl ?_)
        unfold ksk_end
        try dsimp only
        simp only [Bool.false_eq_true, if_false]
        have hDh : h'.get? D = some (seqObj "list" #[] e1) := kp' _ _ hDk hDH
        have hrh : Rds (fun b => U b ∨ b = D ∨ b = kS) h' ws.toList ds := hrH.mono (fun _ q => q) fun b o q e => kp' b o (fun z => q (.inr (.inr z))) e
        refine run_core (s := { s with heap := h', toks := tk }) (vs := ws.toList) hu (by simpa using hl') (by simpa using rk) hp fun st hout hfl hpl => ?_
        have hsz : (List.toArray (p.map fun i => ws.toList.getD i Value.none)).size ≤ 4096 := by rw [List.size_toArray, List.length_map]; omega
        unfold ksk_tail
        try dsimp only
        rw [hout]
        refine wpAny_bind (listUpdate_at hk' rfl ?_ (by rw [List.size_toArray, sizeLine_eq]; simp at hl' l1; omega) (Nat.zero_le _))
        refine wpAny_bind (wpAny_letGo ?_)
        have hD3 : (h'.update kS (Obj.mapSeq fun _ => (#[] : Array Value))).get? D = some (seqObj "list" #[] e1) := upd_keep _ hDk hDh
        refine wpAny_bind (seqEpoch_at hD3 rfl ?_)
        refine wpAny_bind (listUpdate_at hD3 rfl ?_ (Nat.zero_le _) (Nat.le_trans hsz (by rw [sizeLine_eq]; omega)))
        rw [hfl]
        simp only [bne_self_eq_false, Bool.false_eq_true, if_false]
        obtain ⟨c2, hc2⟩ : ∃ c2, ((h'.update kS (Obj.mapSeq fun _ => (#[] : Array Value))).update D (Obj.mapSeq fun _ => List.toArray (p.map fun i => ws.toList.getD i Value.none))).get? D = some (seqObj "list" (List.toArray (p.map fun i => ws.toList.getD i Value.none)) c2) := ⟨_, get?_update_seq hD3 fun _ => List.toArray (p.map fun i => ws.toList.getD i Value.none)⟩
        have kfin : ∀ b o, b ≠ D → b ≠ kS → h'.get? b = some o → ((h'.update kS (Obj.mapSeq fun _ => (#[] : Array Value))).update D (Obj.mapSeq fun _ => List.toArray (p.map fun i => ws.toList.getD i Value.none))).get? b = some o := fun b o n1 n2 e => upd_keep _ n1 (upd_keep _ n2 e)
        refine wpAny_pure ⟨rfl, k D _ c2 _ (keeps_heap fun b o e => kfin b o (nD b o e) (nK b o e) (kp' b o (nK b o e) (kpH b o (nD b o e) (keep b o e)))) hn hc2 ?_⟩
        have := (pick_rd hrh p).mono (X' := fun b => U b ∨ b = D) (h' := (h'.update kS (Obj.mapSeq fun _ => (#[] : Array Value))).update D (Obj.mapSeq fun _ => List.toArray (p.map fun i => ws.toList.getD i Value.none))) (fun b q => q.elim .inl fun e => .inr (.inl e)) fun b o q e => kfin b o (fun z => q (.inr (.inl z))) (fun z => q (.inr (.inr z))) e
        simpa using this
    · cases hF
  · cases hF
end Pf

namespace Pf
open PySem PySem.Calls PyProof.Rows PySem.W

/- ---- built-ins over frozen values ---- -/
noncomputable def BlV (G : Gx) (n : Nat) (v : Value) (F : List D → Option D) : Prop :=
  ∀ A U s vs ds d (Q : Value → Shared → Prop), A.handled = none → Room A n → (∀ a, U a → ∃ o, s.heap.get? a = some o) → Rds U s.heap vs ds → F ds = some d → (∀ v' s', Keeps s s' → Rd U s'.heap v' d → Q v' s') → W G A (call v vs) Q s
theorem SE_bltV {C : Cx} (O : C.Ok) {f : Str} {e : Expr} {es : List Expr} {p pos : Pos} {v : Value} {m : Fl} {F : List D → Option D} (hF : ∀ G n, BlV G n v F) (hb : bootBuiltins f = some v) (hv : Bv v) (hm : f ∈ bltNames)
    (hk : C.env.kindOf f = some .globalImplicit) (hl : SL C (e :: es) m) (hd : (f == ("__debug__" : Str)) = false := by decide) (hn : f ≠ "__name__" := by decide) : SE C (eval (.Call (.Name f p) (e :: es) [] pos) C.env) (bindL F m) := by
  intro X P U σ s Q R d hd' k
  unfold bindL at hd'
  split at hd'
  · rename_i ds hm'
    refine wpAny_Call_NameR (ld_blt O R hk hm hb ?_ hd hn)
    refine callWith_bv hv starEach_ne (hl.1 _ _) (hl.2 _ X P U σ s _ R ds hm' fun vs s' K r => ?_)
    exact hF C.G C.lv C.A U s' vs ds d Q O.hd O.room (R.keeps K).ul r hd' fun v' s'' K' r' => k v' s'' (keeps_trans K K') r'
  · cases hd'

noncomputable def fInt : List D → Option D
  | [.bool b] => some (.int (match b with | true => 1 | false => 0))
  | [.int a] => some (.int a)
  | _ => none
theorem bl_int (G : Gx) (n : Nat) : BlV G n (.type "int") fInt := by
  intro A U s vs ds d Q hA hR hU r hF k
  unfold fInt at hF
  split at hF <;> cases hF
  · rename_i b
    cases r with
    | cons r1 r2 =>
      cases r2
      cases r1
      refine call_int_bool ?_
      cases b
      · exact k _ _ (keeps_tok s _) (.int _ _)
      · exact k _ _ (keeps_tok s _) (.int _ _)
  · cases r with
    | cons r1 r2 =>
      cases r2
      cases r1
      exact call_int_int (k _ _ (keeps_refl s) (.int _ _))

noncomputable def anyB : List D → Option Bool
  | [] => some false
  | .bool b :: r => (match anyB r with | some c => some (b || c) | none => none)
  | _ => none
noncomputable def fAny : List D → Option D
  | [.list ds] => (match anyB ds with | some b => some (.bool b) | none => none)
  | _ => none
theorem anyB_ok {U : AS} {h : Heap} : ∀ {vs : List Value} {ds : List D} {b : Bool}, Rds U h vs ds → anyB ds = some b → ∃ bs : List Bool, vs = bs.map .bool ∧ b = bs.any id
  | [], [], _, .nil, h => by cases h; exact ⟨[], rfl, rfl⟩
  | v :: vs, d :: ds, b, .cons r1 r2, h => by
    cases d with
    | bool c =>
      simp only [anyB] at h
      split at h <;> cases h
      rename_i c' hc
      obtain ⟨bs, e1, e2⟩ := anyB_ok r2 hc
      cases r1
      exact ⟨c :: bs, by simp [e1], by simp [e2]⟩
    | _ => simp [anyB] at h
theorem bl_any (G : Gx) (n : Nat) : BlV G n (.builtin "any") fAny := by
  intro A U s vs ds d Q hA hR hU r hF k
  unfold fAny at hF
  split at hF
  · rename_i l
    split at hF <;> cases hF
    rename_i b hb
    cases r with
    | cons r1 r2 =>
      cases r2
      cases r1 with
      | list hn hg hs =>
        rename_i a ws c
        obtain ⟨bs, e1, e2⟩ := anyB_ok hs hb
        refine call_any_walk (wpAny_pyIter_list (IsList_of hg) ?_)
        have hne : a ≠ s.heap.objs.size := Nat.ne_of_lt (Heap.lt_size hg)
        refine ⟨s.heap.objs.size, _, _, ws.size, _, _, (fun i => bs.getD i false), rfl, Walks.list (A := A.in1) hA s.heap.objs.size a hne ws, ⟨⟨_, Heap.get?_push_size _ rfl, rfl, rfl⟩, ⟨_, Heap.get?_push_of_some _ hg, rfl, _, rfl⟩⟩, ?_, fun h' tk hk => ?_⟩
        · intro i v s' Q' E' hv hq
          have : ws.toList[i]? = some v := by simpa using hv
          rw [e1, List.getElem?_map] at this
          cases e : bs[i]? with
          | none => rw [e] at this; cases this
          | some c =>
            rw [e] at this
            cases this
            refine wpAny_truthy_bool ?_
            have hq : Q' (bs.getD i false) s' := hq
            rw [List.getD_eq_getElem?_getD, e] at hq
            exact hq
        · have eb : (List.range ws.size).any (fun i => bs.getD i false) = b := by
            have hl : ws.size = bs.length := by have := congrArg List.length e1; simpa using this
            rw [e2, hl]
            have := congrArg (fun l => List.any l id) (pick_range bs false)
            simp only [List.any_map] at this
            simpa [Function.comp_def] using this
          rw [eb]
          refine k _ _ (keeps_heap fun b o e => hk b o (fun q => ?_) (Heap.get?_push_of_some _ e)) (.bool _)
          rw [List.mem_singleton] at q
          exact absurd (Heap.lt_size e) (q ▸ Nat.lt_irrefl _)
  · cases hF

/- ---- sum(lists, list) ---- -/
noncomputable def sumL (acc : List D) : List D → Option D
  | [] => some (.list acc)
  | .list d :: r => (match short (acc ++ d) with | true => sumL (acc ++ d) r | false => none)
  | _ => none
noncomputable def fSum : List D → Option D
  | [.list ls, .list st] => sumL st ls
  | _ => none
theorem args_sum2 (a b : Value) : argsOk "sum" ⟨[a, b], []⟩ := by unfold argsOk; kernel_rfl
theorem sum_loop {G : Gx} {A : Around} (hA : A.handled = none) {U : AS} {I S l : Addr} {items : Array Value} {c : Nat} {d : D} {s₀ : Shared} (hIS : I ≠ S) (hlI : l ≠ I) (hlS : l ≠ S) (hU : ∀ a, U a → ∃ o, s₀.heap.get? a = some o) (hI0 : s₀.heap.get? I = none) (hS0 : s₀.heap.get? S = none) {Q : Value → Shared → Prop}
    (k : ∀ v' s', Keeps s₀ s' → Rd U s'.heap v' d → Q v' s') : ∀ (ls acc : List D) (i : Nat) (s : Shared) (t : Addr) (e : Nat), (∃ h' tk, s = { s₀ with heap := h', toks := tk }) → (∀ b o, b ≠ I → b ≠ S → s₀.heap.get? b = some o → s.heap.get? b = some o) → s.heap.IsListIter I l i → s.heap.get? l = some (lobj items c) →
      s.heap.get? S = some (lobj #[.ref t] e) → (∃ o, s.heap.get? I = some o ∧ o.cls = .type "list_iterator") → Rds (fun b => U b ∨ b = I ∨ b = S) s.heap (items.toList.drop i) ls → Rd (fun b => U b ∨ b = I ∨ b = S) s.heap (.ref t) (.list acc) → sumL acc ls = some d →
      codeAny (model G.prog G.w) A (.builtin "sum.loop" ⟨[.ref I, .ref S, rawInt 2, rawInt 0], []⟩) (fun r s' => match r with | .ok (.ret v) => Q v s' | .ok _ => False | .error e => False) s := by
  intro ls
  induction ls with
  | nil =>
    intro acc i s t e sh kp hit hl hS hI rl rt hs
    cases hs
    refine codeAny_builtin F.entry_sum_loop ?_
    rw [Around.under_plainId F.plain_sum_loop _]
    show wpAny _ A.in1 (seqItems? (.ref S) >>= _) _ _ s
    refine wpAny_bind (wpAny_seqItems hS rfl ?_)
    show wpAny _ A.in1 (tryCatch (pyNext (.ref I)) _ >>= _) _ _ s
    refine wpAny_bind (wpAny_tryCatch (wpAny_pyNext_list_end hA hit (IsList_of hl) rl.ended fun h' he => ?_))
    refine wpAny_pure ?_
    obtain ⟨h1, tk, rfl⟩ := sh
    have kk : ∀ b o, b ≠ I → h1.get? b = some o → h'.get? b = some o := fun b o hb e => he b o hb e
    refine k _ _ ⟨h', tk, rfl, fun b o e => kk b o (fun z => by rw [z, hI0] at e; cases e) (kp b o (fun z => by rw [z, hI0] at e; cases e) (fun z => by rw [z, hS0] at e; cases e) e)⟩ ?_
    exact rt.mono (fun _ q => .inl q) fun b o q e => kk b o (fun z => q (.inr (.inl z))) e
  | cons dd ls ih =>
    intro acc i s t e sh kp hit hl hS hI rl rt hs
    cases dd with
    | list d' =>
      simp only [sumL] at hs
      split at hs
      · rename_i hsh
        obtain ⟨v, hv, r1, r2⟩ := rl.split
        refine codeAny_builtin F.entry_sum_loop ?_
        rw [Around.under_plainId F.plain_sum_loop _]
        show wpAny _ A.in1 (seqItems? (.ref S) >>= _) _ _ s
        refine wpAny_bind (wpAny_seqItems hS rfl ?_)
        show wpAny _ A.in1 (tryCatch (pyNext (.ref I)) _ >>= _) _ _ s
        refine wpAny_bind (wpAny_tryCatch (wpAny_pyNext_list_item hit (IsList_of hl) hv fun h' hit' hs' => ?_))
        have k1 : ∀ b o, b ≠ I → s.heap.get? b = some o → h'.get? b = some o := fun b o hb e => hs'.extBut b o hb e
        have mv : ∀ {v d}, Rd (fun b => U b ∨ b = I ∨ b = S) s.heap v d → Rd (fun b => U b ∨ b = I ∨ b = S) h' v d := fun r => r.mono (fun _ q => q) fun b o q e => k1 b o (fun z => q (.inr (.inl z))) e
        have mvs : ∀ {v d}, Rds (fun b => U b ∨ b = I ∨ b = S) s.heap v d → Rds (fun b => U b ∨ b = I ∨ b = S) h' v d := fun r => r.mono (fun _ q => q) fun b o q e => k1 b o (fun z => q (.inr (.inl z))) e
        have q1 := mv r1
        have q2 := mvs r2
        have q3 := mv rt
        cases q1 with
        | list hn1 hg1 hr1 => cases q3 with
          | list hn3 hg3 hr3 =>
            rename_i a1 ws1 n1 ws3 n3
            have l1 := hr1.length
            have l3 := hr3.length
            have l4 := short_le hsh
            simp only [Array.length_toList, List.length_append] at l1 l3 l4
            have hS' := k1 _ _ hIS.symm hS
            show wpAny _ A.in1 ((holding [Value.ref a1] (binaryOp .Add (.ref t) (.ref a1))).attempt >>= _) _ _ _
            refine wpAny_bind (wpAny_attempt (wpAny_holding (PySem.P.add_list hg3 hg1 ?_ (by rw [sl]; omega))))
            have hP : ∀ b o, h'.get? b = some o → (h'.push (lobj (ws3 ++ ws1) 0)).get? b = some o := fun b o e => Heap.get?_push_of_some _ e
            have hSP := hP _ _ hS'
            have hnew : (h'.push (lobj (ws3 ++ ws1) 0)).get? h'.objs.size = some (lobj (ws3 ++ ws1) 0) := Heap.get?_push_size _ rfl
            have nI : h'.objs.size ≠ I := Nat.ne_of_gt (by obtain ⟨o, e, _⟩ := hit'; exact Heap.lt_size e)
            have nS : h'.objs.size ≠ S := Nat.ne_of_gt (Heap.lt_size hS')
            show wpAny _ A.in1 (updateSeq S (fun _ => #[.ref h'.objs.size]) >>= _) _ _ _
            refine wpAny_bind (wpAny_updateSeq hSP rfl ?_)
            have hS₂ := Heap.get?_update_self (Obj.mapSeq fun _ => #[Value.ref h'.objs.size]) hSP rfl
            refine wpAny_bind (wpAny_letGo ?_)
            refine wpAny_bind (wpAny_updateSeq hS₂ rfl (wpAny_pure ⟨plainId_quiet F.plain_sum_loop _, ?_⟩))
            obtain ⟨h1, tk, rfl⟩ := sh
            have k2 : ∀ b o, b ≠ S → (h'.push (lobj (ws3 ++ ws1) 0)).get? b = some o → (((h'.push (lobj (ws3 ++ ws1) 0)).update S (Obj.mapSeq fun _ => #[Value.ref h'.objs.size])).update S (Obj.mapSeq fun _ => #[Value.ref h'.objs.size])).get? b = some o := fun b o hb e => upd_keep _ hb (upd_keep _ hb e)
            have mv2 : ∀ {v d}, Rds (fun b => U b ∨ b = I ∨ b = S) h' v d → Rds (fun b => U b ∨ b = I ∨ b = S) (((h'.push (lobj (ws3 ++ ws1) 0)).update S (Obj.mapSeq fun _ => #[Value.ref h'.objs.size])).update S (Obj.mapSeq fun _ => #[Value.ref h'.objs.size])) v d := fun r => r.mono (fun _ q => q) fun b o q e => k2 b o (fun z => q (.inr (.inr z))) (hP b o e)
            have hself := Heap.get?_update_self (Obj.mapSeq fun _ => #[Value.ref h'.objs.size]) hS₂ rfl
            have nU : ¬ (U h'.objs.size ∨ h'.objs.size = I ∨ h'.objs.size = S) := by
              rintro (q | q | q)
              · obtain ⟨o, e⟩ := hU _ q
                exact absurd (Heap.lt_size (k1 _ _ nI (kp _ _ nI nS e))) (Nat.lt_irrefl _)
              · exact nI q
              · exact nS q
            exact ih (acc ++ d') (i + 1) _ h'.objs.size _ ⟨_, tk, rfl⟩ (fun b o n1 n2 e => k2 b o n2 (hP b o (k1 b o n1 (kp b o n1 n2 e)))) (by
              obtain ⟨o, e, r⟩ := hit'
              exact ⟨o, k2 _ _ hIS (hP _ _ e), r⟩) (k2 _ _ hlS (hP _ _ (k1 _ _ hlI hl))) hself (by
              obtain ⟨o, e, r, _⟩ := hit'
              exact ⟨o, k2 _ _ hIS (hP _ _ e), r⟩) (mv2 q2) (.list nU (k2 _ _ nS hnew) (by rw [Array.toList_append]; exact (mv2 hr3).append (mv2 hr1))) hs
      · cases hs
    | _ => simp [sumL] at hs

theorem bl_sum (G : Gx) (n : Nat) : BlV G n (.builtin "sum") fSum := by
  intro A U s vs ds d Q hA hR hU r hF k
  unfold fSum at hF
  split at hF
  · rename_i ls st
    cases r with
    | cons r1 r2 => cases r2 with
      | cons r2 r3 =>
        cases r3
        cases r1 with
        | list hn hg hs => cases r2 with
          | list hn' hg' hs' =>
            rename_i l items c z zs c'
            refine call_function_tree F.kind_sum F.plain_sum F.entry_sum (args_sum2 _ _) ?_
            unfold Builtin.«sum»
            simp only [List.length_cons, List.length_nil]
            rw [if_neg (by decide)]
            refine wpAny_bind (wpAny_of_eq (show Builtin.Builtins.bindParams "sum" ["start"] 0 ⟨[Value.ref z], []⟩ = pure [some (.ref z)] from rfl) ?_)
            refine wpAny_bind (wpAny_pyIter_list (IsList_of hg) ?_)
            have hz1 : (s.heap.push { cls := .type "list_iterator", data := .fields #[.ref l, .int 0 0] }).get? z = some (lobj zs c') := Heap.get?_push_of_some _ hg'
            have hzT : ∀ tk, Shared.TypeIs { s with heap := s.heap.push { cls := .type "list_iterator", data := .fields #[.ref l, .int 0 0] }, toks := tk } (.ref z) "list" := fun tk => ⟨_, hz1, rfl⟩
            refine wpAny_bind (wpAny_pure ?_)
            dsimp only
            simp only [List.forIn_cons, List.forIn_nil]
            refine wpAny_bind (wpAny_bind (wpAny_bind (wpAny_isInstance (T := "list") (b := false) (hzT _) F.sub_list_str ?_)))
            simp only [Bool.false_eq_true, if_false]
            refine wpAny_pure (wpAny_bind (wpAny_bind (wpAny_isInstance (T := "list") (b := false) (hzT _) F.sub_list_bytes ?_)))
            simp only [Bool.false_eq_true, if_false]
            refine wpAny_pure (wpAny_bind (wpAny_bind (wpAny_isInstance (T := "list") (b := false) (hzT _) F.sub_list_bytearray ?_)))
            simp only [Bool.false_eq_true, if_false]
            refine wpAny_pure (wpAny_pure ?_)
            refine wpAny_bind (wpAny_newObj_type ?_)
            have hI0 : s.heap.get? s.heap.objs.size = none := get_size_none _
            have hS0 : s.heap.get? (s.heap.push { cls := .type "list_iterator", data := .fields #[.ref l, .int 0 0] }).objs.size = none := by
              cases e : s.heap.get? (s.heap.push { cls := .type "list_iterator", data := .fields #[.ref l, .int 0 0] }).objs.size with
              | none => rfl
              | some o => have := Heap.lt_size e; rw [Heap.size_push] at this; exact absurd (Nat.lt_of_succ_lt this) (Nat.lt_irrefl _)
            have hIS : s.heap.objs.size ≠ (s.heap.push { cls := .type "list_iterator", data := .fields #[.ref l, .int 0 0] }).objs.size := by rw [Heap.size_push]; exact (Nat.succ_ne_self _).symm
            have hp : ∀ b o, s.heap.get? b = some o → ((s.heap.push { cls := .type "list_iterator", data := .fields #[.ref l, .int 0 0] }).push { cls := .type "list", data := .seq #[.ref z] }).get? b = some o := fun b o e => Heap.get?_push_of_some _ (Heap.get?_push_of_some _ e)
            have av : ∀ b o, (b = s.heap.objs.size ∨ b = (s.heap.push { cls := .type "list_iterator", data := .fields #[.ref l, .int 0 0] }).objs.size) → s.heap.get? b = some o → U b := fun b o q e => by
              rcases q with rfl | rfl
              · rw [hI0] at e; cases e
              · rw [hS0] at e; cases e
            refine wpAny_pure ⟨plainId_quiet F.plain_sum_loop _, ?_⟩
            exact sum_loop (s₀ := s) hA hIS (Nat.ne_of_lt (Heap.lt_size hg)) (upd_none hS0 hg) hU hI0 hS0 k ls st 0 _ z 0 ⟨_, _, rfl⟩ (fun b o _ _ e => hp b o e) ⟨_, Heap.get?_push_of_some _ (Heap.get?_push_size _ rfl), rfl, rfl⟩ (hp _ _ hg) (Heap.get?_push_size _ rfl) ⟨_, Heap.get?_push_of_some _ (Heap.get?_push_size _ rfl), rfl⟩
              (by simpa using (hs.avoid av).kept hp) ((Rd.avoid av (.list hn' hg' hs')).kept hp) hF
  · cases hF

/- ---- sorted(x, key=f), f a def of the text ---- -/
theorem SF.key {G : Gx} {n : Nat} {f : Str} {F : List D → Option D} (h : SF G n f F) : ∃ a o fd, G.mg f = some (.ref a) ∧ G.h0.get? a = some o ∧ o.data = .func fd ∧ KeyFn G n (.ref a) (fun d => F [d]) := by
  obtain ⟨a, o, fd, h1, h2, h3, h4⟩ := h
  exact ⟨a, o, fd, h1, h2, h3, fun A X s v d k Q hA hR hb hx r hF kk => h4 A X s [v] [d] k Q hA hR hb hx (.cons r .nil) hF kk⟩
noncomputable def oSortK (K : D → Option D) (m : Fe) : Fl := fun σ => match m σ with | some (.list ds) => fSortK K ds | _ => none
theorem SO_sortK {C : Cx} (O : C.Ok) {e : Expr} {f : Str} {p fp kp pos : Pos} {m : Fe} {F : List D → Option D} {n : Nat} (hS : SF C.G n f F) (hn : n + 1 ≤ C.lv) (hk : C.env.kindOf "sorted" = some .globalImplicit) (hkf : C.env.kindOf f = some .globalImplicit) (h : SE C (eval e C.env) m)
    (hd : (f == ("__debug__" : Str)) = false := by decide) (hst : ∀ env, starEach [e] env = [(false, eval e env)] := by intro _; rfl) :
    SO C (eval (.Call (.Name "sorted" p) [e] [⟨some "key", .Name f fp, kp⟩] pos) C.env) (oSortK (fun d => F [d]) m) := by
  intro X P U σ s Q R ds hd' k
  obtain ⟨a, o, fd, h1, h2, h3, h4⟩ := hS.key
  unfold oSortK at hd'
  split at hd'
  · rename_i l hm
    show W C.G C.A (do callWith pos (← eval (.Name "sorted" p) C.env) [] (backTo pos (starEach [e] C.env)) (backToKw pos (keywordEach [⟨some "key", .Name f fp, kp⟩] C.env))) Q s
    refine wpAny_bind (ld_blt O R hk (by decide) PyProof.Rows.Boot.«sorted» ?_ (by decide) (by decide))
    have hb : backTo pos (starEach [e] C.env) = [(false, eval e C.env)] := by rw [hst]; rfl
    refine callWith_builtin_kwB (by rw [hb]; rfl) rfl ?_
    rw [hb]
    refine evalArgs_kwB rfl (spliced_cons (h X P U σ s _ R _ hm fun v s₁ K r => spliced_nil ?_))
    have R₁ := R.keeps K
    refine kws_cons (ld_glob O R₁ hkf h1 ?_ hd)
    refine kws_nil ?_
    cases r with
    | list hn' hg hs =>
      refine sorted_key h4 O.hd (O.room.mono hn) (fun b o e => ?_) R₁.ul hg hs hd' fun a' ws c s' K' hn2 hg' r' => k a' ws c s' (keeps_trans K K') ?_ hg' r'
      · obtain ⟨q1, q2, q3⟩ := R₁.base b o e
        exact ⟨q1, fun q => (R₁.pu b q).elim q3 fun z => z q2⟩
      · cases e : s.heap.get? a' with
        | none => rfl
        | some o => rw [keeps_get K _ _ e] at hn2; cases hn2
  · cases hd'
end Pf

namespace Pf
open PySem PySem.Calls PyProof.Rows PySem.W

/- ---- a lambda: its code object is made once, and written into the table of the code around it ---- -/
@[reducible] noncomputable def Gx.put (G : Gx) (h : Heap) : Gx := { G with h0 := h }
theorem Gx.put_ok {G : Gx} (O : G.Ok) {h : Heap} (hk : ∀ b o, G.h0.get? b = some o → h.get? b = some o) : (G.put h).Ok := by
  have T := O.T.keeps hk
  exact ⟨⟨T.g, T.b, T.nolimit, T.fn, T.builtins⟩, O.blt⟩
noncomputable def pickH (h : Heap) (p : Addr → Bool) : Heap := hideAll h ((List.range h.objs.size).filter fun a => !p a)
theorem pick_of {h : Heap} {p : Addr → Bool} {b : Addr} {o : Obj} (e : (pickH h p).get? b = some o) : h.get? b = some o ∧ p b = true := by
  have e1 := of_hideAll _ e
  refine ⟨e1, ?_⟩
  cases hp : p b with
  | true => rfl
  | false =>
    have hm : b ∈ (List.range h.objs.size).filter fun a => !p a := by
      rw [List.mem_filter, List.mem_range]
      exact ⟨Heap.lt_size e1, by rw [hp]; rfl⟩
    have := hideAll_none _ (h := h) hm
    unfold pickH at e
    rw [this] at e; cases e
theorem pick_get {h : Heap} {p : Addr → Bool} {b : Addr} {o : Obj} (e : h.get? b = some o) (hp : p b = true) : (pickH h p).get? b = some o := by
  refine hideAll_get _ e fun q => ?_
  rw [List.mem_filter] at q
  rw [hp] at q
  exact absurd q.2 (by simp)

structure LamB (G : Gx) (cm tab : Addr) : Prop where
  hd : CodeHd G.h0 cm tab
  bt : ∃ bm ob, G.mg "__builtins__" = some (.ref bm) ∧ bm ≠ builtinsNs ∧ G.h0.get? bm = some ob ∧ ob.cls = .type "module" ∧ ob.dict = some builtinsNs ∧ ob.data = .plain
noncomputable def Ph2 (G : Gx) (tab : Addr) (lp : Pos) (q : Str) : Prop := ∃ c', G.h0.get? tab = some (tabObj #[rawInt lp.line, rawInt lp.col, .ref c']) ∧ G.h0.CodeRec (.ref c') q
theorem LamB.keeps {G : Gx} {cm tab : Addr} (L : LamB G cm tab) {h : Heap} (hk : ∀ b o, G.h0.get? b = some o → h.get? b = some o) : LamB (G.put h) cm tab := by
  obtain ⟨bm, ob, h1, h2, h3, h4⟩ := L.bt
  exact ⟨L.hd.keeps hk, bm, ob, h1, h2, hk _ _ h3, h4⟩
theorem Ph2.keeps {G : Gx} {tab : Addr} {lp : Pos} {q : Str} (L : Ph2 G tab lp q) {h : Heap} (hk : ∀ b o, G.h0.get? b = some o → h.get? b = some o) : Ph2 (G.put h) tab lp q := by
  obtain ⟨c', h1, h2⟩ := L
  exact ⟨c', hk _ _ h1, h2.keeps hk⟩
theorem LamB.built {G : Gx} {cm tab : Addr} (L : LamB G cm tab) (O : G.Ok) {h : Heap} (hk : ∀ b o, G.h0.get? b = some o → h.get? b = some o) {o : Obj} (ht : h.get? tab = some o) (hc : o.cls = .none) : h.BuiltinsAt G.mg tab := by
  obtain ⟨bm, ob, h1, h2, h3, h4, h5, h6⟩ := L.bt
  refine ⟨bm, ob, h1, h2, fun q => ?_, fun q => ?_, hk _ _ h3, h4, h5, h6⟩
  · obtain ⟨o', es, ep, e, hd, _⟩ := O.T.g
    rw [q, e] at h3; cases h3; rw [hd] at h6; cases h6
  · have := hk _ _ h3
    rw [q, ht] at this
    cases this
    rw [hc] at h4; cases h4
theorem glob_ne {G : Gx} (O : G.Ok) {h : Heap} (hk : ∀ b o, G.h0.get? b = some o → h.get? b = some o) {tab : Addr} {ps : Array Value} (ht : h.get? tab = some (tabObj ps)) : mainGlobals ≠ tab := fun q => by
  obtain ⟨o', es, ep, e, hd, _⟩ := O.T.g
  have := hk _ _ e
  rw [q, ht] at this
  cases this
  cases hd

/-- what is asked of the lambda -/
structure LamOk (params : Arguments) (body : Expr) (scope : Scope) (x : Str) (mb : Fe) : Prop where
  hdef : ∀ env, defaultsOf params env = ([], [])
  hcl : ∀ env, closureFor scope env = pure []
  hck : fChk scope [x] = true
  hbind : ∀ (fd : FuncData) v, fd.params = params → fd.defaults = .none → fd.kwdefaults = .none → bindArgs fd ⟨[v], []⟩ = pure ([x].zip [v])
  hbody : ∀ C : Cx, C.Ok → C.names = [x] → SE C (eval body C.env) mb

theorem key_lam {G : Gx} (O : G.Ok) {n : Nat} {params : Arguments} {body : Expr} {scope : Scope} {x : Str} {mb : Fe} (L : LamOk params body scope x mb) {f c' : Addr} {name q : Str} {pm ctv : Value} {o : Obj}
    (ho : G.h0.get? f = some o) (hd : o.data = .func (kla_fn name q params body scope [] pm (.ref c') ctv)) (hcr : G.h0.CodeRec (.ref c') q) : KeyFn G (n + 1) (.ref f) (fun d => mb [.val d]) := by
  intro A X s v d k Q hA hR base xl hr hK kk
  obtain ⟨hk, hco, hge, _, hkd⟩ := fChk_kinds L.hck
  have hl : [v].length = [x].length := rfl
  refine wpAny_call (kla_callFunE hR.depth (base f o ho).1 hd hco hge rfl (hcr.keeps fun b o e => (base b o e).1) ?_)
  rw [L.hbind _ v rfl rfl rfl]
  refine wpAny_pure (wpAny_newFunctionEnv_cells hk (fun y hy => ?_) fun env he s₁ I => ?_)
  · have hx' : y.1 ∈ [x] := (List.of_mem_zip (a := y.1) (b := y.2) hy).1
    rcases hkd y.1 hx' with h | h
    · exact .inl h
    · refine .inr ⟨h, ?_⟩
      obtain ⟨c, hc⟩ := cellsFrom_some scope.names (s.heap.objs.size + 1) y.1 (lookup_mem h)
      exact Option.isSome_iff_exists.mpr ⟨c, hc⟩
  · subst he
    refine ⟨(O.T.nolimit.keeps fun b o e => (base b o e).1).keeps I.toInCall.keep, kla_codeExpr ?_⟩
    have ER := entry_rel (σ := [.val d]) (X := X) (U := X) (P := fun b => ∃ o, s.heap.get? b = some o) (pin := 1) (fx := fun _ => none) O hA hR (fd := kla_fn name q params body scope [] pm (.ref c') ctv) rfl rfl L.hck (pn := [x]) (names := [x]) (vs := [v]) hl I
      (fun b o e => ⟨(base b o e).1, ⟨o, (base b o e).1⟩, (base b o e).2⟩) (fun _ q => q) xl xl (fun _ q => q) (fun _ q => .inl q) rfl (by simp) (fun i y sl hy hs => by
        match i, hy, hs with
        | 0, hy, hs =>
          simp at hy hs
          subst hy hs
          exact .inr ⟨v, by simp, v, rfl, hr⟩
        | i + 1, hy, hs => simp at hy) (fun i y hi hy => absurd (List.getElem?_eq_some_iff.mp hy).1 (by simp; omega)) (fun i j y z es fs b _ _ hi hj _ _ => by
        match i, hi with
        | 0, hi => simp at hi
        | i + 1, hi => simp at hi)
    obtain ⟨OC, R⟩ := ER
    refine W.any (L.hbody _ OC rfl X _ X _ s₁ _ R k hK fun v' s₂ K r => ?_)
    obtain ⟨h', tk, rfl⟩ := shape_trans I.toInCall.same (keeps_shape K)
    exact kk v' _ ⟨h', tk, rfl, fun b o e => keeps_get K b o (I.toInCall.keep b o e)⟩ r

/-- the lambda behind the first time -/
theorem lam_hit {G : Gx} (O : G.Ok) {A : Around} {cm tab : Addr} {lp : Pos} {q : Str} (LB : LamB G cm tab) (P2 : Ph2 G tab lp q) {params : Arguments} {body : Expr} {scope : Scope} {x : Str} {mb : Fe} (L : LamOk params body scope x mb) {env : Env} (hge : env.globals = mainGlobals) (hcode : env.code = .ref cm) (hq : env.qual ++ "<lambda>" = q)
    {s : Shared} (base : ∀ b o, G.h0.get? b = some o → s.heap.get? b = some o) {Q : Value → Shared → Prop}
    (h : ∀ f c' o s' pm ctv, Keeps s s' → s.heap.get? f = none → s'.heap.get? f = some o → o.data = .func (kla_fn "<lambda>" q params body scope [] pm (.ref c') ctv) → s'.heap.CodeRec (.ref c') q → G.h0.CodeRec (.ref c') q → Q (.ref f) s') :
    W G A (eval (.Lambda params body scope lp) env) Q s := by
  obtain ⟨c', h1, h2⟩ := P2
  have ht := base _ _ h1
  refine kla_eval (L.hdef env) ?_
  rw [hq]
  refine kla_makeFunctionHit (c := cm) (P := tab) (mg := G.mg) (cv := .ref c') (L.hcl env) hge (O.T.g.keeps base) hcode (LB.hd.keeps base) ht (by simp [TriplesOk, rawInt]) (by simp [codeAmong, rawInt]) (LB.built O base ht rfl) fun ctv h' tk hk hsz => ?_
  have hk2 : ∀ b o, s.heap.get? b = some o → (h'.push ({ cls := .type "function", data := .func (kla_fn "<lambda>" q params body scope [] ((G.mg "__name__").getD .none) (.ref c') ctv) } : Obj)).get? b = some o := fun b o e => Heap.get?_push_of_some _ (hk b o e)
  refine h h'.objs.size c' _ _ _ _ (keeps_heap hk2) ?_ (Heap.get?_push_size _ rfl) rfl ((h2.keeps base).keeps hk2) h2
  cases e : s.heap.get? h'.objs.size with
  | none => rfl
  | some o => exact absurd (Nat.lt_of_lt_of_le (Heap.lt_size e) hsz) (Nat.lt_irrefl _)
/-- the lambda for the first time -/
theorem lam_miss {G : Gx} (O : G.Ok) {A : Around} {cm tab : Addr} {lp : Pos} {q : Str} (LB : LamB G cm tab) {params : Arguments} {body : Expr} {scope : Scope} {x : Str} {mb : Fe} (L : LamOk params body scope x mb) {env : Env} (hge : env.globals = mainGlobals) (hcode : env.code = .ref cm) (hq : env.qual ++ "<lambda>" = q)
    {s : Shared} (base : ∀ b o, G.h0.get? b = some o → s.heap.get? b = some o) (ht : s.heap.get? tab = some (tabObj #[])) {Q : Value → Shared → Prop}
    (h : ∀ f c' o s' pm ctv, (∃ h' tk, s' = { s with heap := h', toks := tk }) → (∀ b o, b ≠ tab → s.heap.get? b = some o → s'.heap.get? b = some o) → s'.heap.get? tab = some (tabObj #[rawInt lp.line, rawInt lp.col, .ref c']) → s.heap.get? c' = none → s.heap.get? f = none → s'.heap.get? f = some o → o.data = .func (kla_fn "<lambda>" q params body scope [] pm (.ref c') ctv) → s'.heap.CodeRec (.ref c') q → Q (.ref f) s') :
    W G A (eval (.Lambda params body scope lp) env) Q s := by
  refine kla_eval (L.hdef env) ?_
  rw [hq]
  refine kla_makeFunction (c := cm) (P := tab) (mg := G.mg) (L.hcl env) hge (O.T.g.keeps base) hcode (LB.hd.keeps base) ht trivial rfl (glob_ne O base ht) (LB.built O base ht rfl) fun c' ctv h' tk hx hge' hlt hrec htb => ?_
  have hk2 : ∀ b o, b ≠ tab → s.heap.get? b = some o → (h'.push (kla_obj "<lambda>" q params body scope [] ((G.mg "__name__").getD .none) c' ctv)).get? b = some o := fun b o n e => Heap.get?_push_of_some _ (hx b o n e)
  refine h h'.objs.size c' _ _ _ _ ⟨_, _, rfl⟩ hk2 (Heap.get?_push_of_some _ (by simpa using htb)) ?_ ?_ (Heap.get?_push_size _ rfl) rfl (hrec.push _)
  · cases e : s.heap.get? c' with
    | none => rfl
    | some o => exact absurd (Nat.lt_of_lt_of_le (Heap.lt_size e) hge') (Nat.lt_irrefl _)
  · cases e : s.heap.get? h'.objs.size with
    | none => rfl
    | some o => exact absurd (Nat.lt_trans (Nat.lt_of_lt_of_le (Heap.lt_size e) hge') hlt) (Nat.lt_irrefl _)

/-- sorted(x, key=lambda), behind the first time -/
theorem SO_sortLam {C : Cx} (O : C.Ok) {cm tab : Addr} {q : Str} {e : Expr} {p kp pos lp : Pos} (LB : LamB C.G cm tab) (P2 : Ph2 C.G tab lp q) {params : Arguments} {body : Expr} {scope : Scope} {x : Str} {m mb : Fe} (L : LamOk params body scope x mb) (hcode : C.env.code = .ref cm) (hq : C.env.qual ++ "<lambda>" = q)
    (hn : 2 ≤ C.lv) (hk : C.env.kindOf "sorted" = some .globalImplicit) (h : SE C (eval e C.env) m) (hst : ∀ env, starEach [e] env = [(false, eval e env)] := by intro _; rfl) :
    SO C (eval (.Call (.Name "sorted" p) [e] [⟨some "key", .Lambda params body scope lp, kp⟩] pos) C.env) (oSortK (fun d => mb [.val d]) m) := by
  intro X P U σ s Q R ds hd' k
  unfold oSortK at hd'
  split at hd'
  · rename_i l hm
    show W C.G C.A (do callWith pos (← eval (.Name "sorted" p) C.env) [] (backTo pos (starEach [e] C.env)) (backToKw pos (keywordEach [⟨some "key", .Lambda params body scope lp, kp⟩] C.env))) Q s
    refine wpAny_bind (ld_blt O R hk (by decide) PyProof.Rows.Boot.«sorted» ?_ (by decide) (by decide))
    have hb : backTo pos (starEach [e] C.env) = [(false, eval e C.env)] := by rw [hst]; rfl
    refine callWith_builtin_kwB (by rw [hb]; rfl) rfl ?_
    rw [hb]
    refine evalArgs_kwB rfl (spliced_cons (h X P U σ s _ R _ hm fun v s₁ K r => spliced_nil ?_))
    have R₁ := R.keeps K
    refine kws_cons (lam_hit O.g LB P2 L O.glob hcode hq (fun b o e => (R₁.base b o e).1) fun f c' o s₂ pm ctv K₂ fn ho hd hcr hcr0 => kws_nil ?_)
    have R₂ := R₁.keeps K₂
    let G3 := C.G.put (pickH s₂.heap fun a => (C.G.h0.get? a).isSome || a == f)
    have sub : ∀ b o, C.G.h0.get? b = some o → G3.h0.get? b = some o := fun b o e => pick_get (R₂.base b o e).1 (by rw [e]; rfl)
    have O3 : G3.Ok := Gx.put_ok O.g sub
    have h4 : KeyFn G3 1 (.ref f) (fun d => mb [.val d]) := key_lam O3 (n := 0) L (pick_get ho (by simp)) hd (hcr0.keeps sub)
    cases r.kept (keeps_get K₂) with
    | list hn' hg hs =>
      refine sorted_key h4 O.hd (O.room.mono hn) (fun b o e => ?_) R₂.ul hg hs hd' fun a' ws c s' K' hn2 hg' r' => k a' ws c s' (keeps_trans (keeps_trans K K₂) K') ?_ hg' r'
      · obtain ⟨e1, e2⟩ := pick_of e
        refine ⟨e1, fun u => ?_⟩
        rcases Bool.or_eq_true _ _ ▸ e2 with e2 | e2
        · obtain ⟨o', e3⟩ := Option.isSome_iff_exists.mp e2
          obtain ⟨q1, q2, q3⟩ := R₂.base b o' e3
          exact (R₂.pu b u).elim q3 fun z => z q2
        · obtain ⟨o', e3⟩ := R₁.ul b u
          rw [eq_of_beq e2, fn] at e3; cases e3
      · cases e : s.heap.get? a' with
        | none => rfl
        | some o => rw [keeps_get (keeps_trans K K₂) _ _ e] at hn2; cases hn2
  · cases hd'
end Pf

namespace Pf
open PySem PySem.Calls PyProof.Rows PySem.W

/- ---- where the table changes: from one base to the next ---- -/
structure Lx where
  cm : Addr
  tab : Addr
  lp : Pos
  q : Str
@[reducible] noncomputable def Cx.put (C : Cx) (h : Heap) : Cx := { C with G := C.G.put h }
theorem Cx.put_ok {C : Cx} (O : C.Ok) {h : Heap} (hg : (C.G.put h).Ok) : (C.put h).Ok := ⟨hg, O.kind, O.glob, O.blt, O.hd, O.room, O.pr, O.nodup, O.var, O.sto, O.apart⟩
/-- the next base -/
structure Nx (G : Gx) (l : Lx) (h : Heap) : Prop where
  sub : ∀ b o, G.h0.get? b = some o → h.get? b = some o
  ph : Ph2 (G.put h) l.tab l.lp l.q
theorem Nx.ok {G : Gx} {l : Lx} {h : Heap} (N : Nx G l h) (O : G.Ok) : (G.put h).Ok := Gx.put_ok O N.sub
structure Turned (G : Gx) (l : Lx) (h : Heap) (s s' : Shared) : Prop where
  nx : Nx G l h
  shape : ∃ h' tk, s' = { s with heap := h', toks := tk }
  keep : ∀ b o, b ≠ l.tab → s.heap.get? b = some o → s'.heap.get? b = some o
  pre : s.heap.get? l.tab = some (tabObj #[])
  base : ∀ b o, h.get? b = some o → s'.heap.get? b = some o ∧ ((∃ o', G.h0.get? b = some o') ∨ b = l.tab ∨ s.heap.get? b = none)
theorem Turned.live {G : Gx} {l : Lx} {h : Heap} {s s' : Shared} (T : Turned G l h s s') {b : Addr} {o : Obj} (e : s.heap.get? b = some o) : ∃ o', s'.heap.get? b = some o' := by
  by_cases q : b = l.tab
  · obtain ⟨c', h1, _⟩ := T.nx.ph
    exact ⟨_, q ▸ (T.base _ _ h1).1⟩
  · exact ⟨o, T.keep b o q e⟩
theorem Turned.kq {G : Gx} {l : Lx} {h : Heap} {s s' : Shared} (T : Turned G l h s s') : ∀ b o, Sq o → s.heap.get? b = some o → s'.heap.get? b = some o := fun b o hq e =>
  T.keep b o (fun q => by
    rw [q, T.pre] at e
    cases e
    obtain ⟨vs, n, z | z⟩ := hq <;> cases z) e
theorem Turned.none {G : Gx} {l : Lx} {h : Heap} {s s' : Shared} (T : Turned G l h s s') {b : Addr} (e : s'.heap.get? b = none) : s.heap.get? b = none := by
  cases q : s.heap.get? b with
  | none => rfl
  | some o => obtain ⟨o', z⟩ := T.live q; rw [e] at z; cases z
theorem Turned.keeps {G : Gx} {l : Lx} {h : Heap} {s s' s'' : Shared} (T : Turned G l h s s') (K : Keeps s' s'') : Turned G l h s s'' :=
  ⟨T.nx, shape_trans T.shape (keeps_shape K), fun b o n e => keeps_get K b o (T.keep b o n e), T.pre, fun b o e => ⟨keeps_get K b o (T.base b o e).1, (T.base b o e).2⟩⟩
theorem Turned.after {G : Gx} {l : Lx} {h : Heap} {s s' s'' : Shared} (K : Keeps s s') (pre : s.heap.get? l.tab = some (tabObj #[])) (T : Turned G l h s' s'') : Turned G l h s s'' :=
  ⟨T.nx, shape_trans (keeps_shape K) T.shape, fun b o n e => T.keep b o n (keeps_get K b o e), pre, fun b o e => ⟨(T.base b o e).1, (T.base b o e).2.imp id (fun z => z.imp id fun z => by
    cases q : s.heap.get? b with
    | none => rfl
    | some o' => rw [keeps_get K _ _ q] at z; cases z)⟩⟩
noncomputable def P2 (P : AS) (h : Heap) : AS := fun b => P b ∨ ∃ o, h.get? b = some o
/-- what is asked ahead of a turn -/
structure Pre (C : Cx) (l : Lx) (X P : AS) (s : Shared) : Prop where
  h0 : C.G.h0.get? l.tab = none
  tab : s.heap.get? l.tab = some (tabObj #[])
  x : ¬ X l.tab
  p : P l.tab
theorem Pre.keeps {C : Cx} {l : Lx} {X P : AS} {s s' : Shared} (p : Pre C l X P s) (K : Keeps s s') : Pre C l X P s' := ⟨p.h0, keeps_get K _ _ p.tab, p.x, p.p⟩
theorem Rel.turn {C : Cx} {l : Lx} {X P U : AS} {σ : St} {s s' : Shared} {h : Heap} (R : Rel C X P U σ s) (p : Pre C l X P s) (T : Turned C.G l h s s') : Rel (C.put h) X (P2 P h) U σ s' := by
  obtain ⟨ρ, V⟩ := R.vars
  have uT : ∀ b, U b → b ≠ l.tab := fun b q e => (R.pu b q).elim (fun z => p.x (e ▸ z)) fun z => z (e ▸ p.p)
  have new : ∀ b o, s.heap.get? b = some o → ¬ P b → ¬ P2 P h b := fun b o e nP q => by
    rcases q with q | ⟨o', q⟩
    · exact nP q
    · rcases (T.base b o' q).2 with ⟨o2, z⟩ | z | z
      · exact nP (R.base b o2 z).2.1
      · exact nP (z ▸ p.p)
      · rw [e] at z; cases z
  have fk : FrameOk C.env C.names s'.heap ρ := by
    obtain ⟨m, ⟨o, es, ep, ho, hd, hr⟩, e⟩ := V.fr.ns
    refine ⟨⟨m, ⟨o, es, ep, T.keep _ _ (fun q => R.pL (q ▸ p.p)) ho, hd, hr⟩, e⟩, fun x c hm hx hc => ?_⟩
    obtain ⟨o, ho, hd⟩ := V.fr.cell x c hm hx hc
    exact ⟨o, T.keep _ _ (fun q => by rw [q, p.tab] at ho; cases ho; cases hd) ho, hd⟩
  refine ⟨fun b o e => ?_, R.xu, fun b q => .inl (R.xp b q), fun b q => ?_, fun b q => ?_, fun b q => ?_, ?_, fun i x c hi hx hk hc => ?_, R.xC, R.len, ρ, fk, fun i x sl hx hs => (V.slot i x sl hx hs |> fun z => ?_), V.one, V.fx⟩
  · refine ⟨(T.base b o e).1, .inr ⟨o, e⟩, fun q => ?_⟩
    rcases (T.base b o e).2 with ⟨o2, z⟩ | z | z
    · exact (R.base b o2 z).2.2 q
    · exact p.x (z ▸ q)
    · obtain ⟨o2, z2⟩ := R.ul b (R.xu b q); rw [z] at z2; cases z2
  · obtain ⟨o, e⟩ := R.ul b q; exact T.live e
  · rcases q with q | ⟨o, q⟩
    · obtain ⟨o, e⟩ := R.pl b q; exact T.live e
    · exact ⟨o, (T.base b o q).1⟩
  · obtain ⟨o, e⟩ := R.ul b q
    exact (R.pu b q).imp id fun z => new b o e z
  · obtain ⟨m, ⟨o, es, ep, ho, hd, hr⟩, e⟩ := V.fr.ns
    exact new _ _ ho R.pL
  · obtain ⟨o, ho, hd⟩ := V.fr.cell x c (List.mem_of_getElem? hx) hk hc
    exact new _ _ ho (R.pC i x c hi hx hk hc)
  · cases sl with
    | un => trivial
    | val d => obtain ⟨v, h1, h2⟩ := z; exact ⟨v, h1, h2.quiet T.kq⟩
    | own ds =>
      obtain ⟨a, vs, n, h1, h2, h4, h5, h6⟩ := z
      exact ⟨a, vs, n, h1, h2, new _ _ h5 h4, T.kq _ _ (Sq.l _ _) h5, h6.quiet T.kq⟩

/- ---- judgements ---- -/
noncomputable def SEt (l : Lx) (C : Cx) (t : Sem Value) (m : Fe) : Prop :=
  ∀ X P U σ s Q, Rel C X P U σ s → Pre C l X P s → ∀ d, m σ = some d → (∀ v s' h, Turned C.G l h s s' → Rd U s'.heap v d → Q v s') → W C.G C.A t Q s
noncomputable def SOt (l : Lx) (C : Cx) (t : Sem Value) (m : Fl) : Prop :=
  ∀ X P U σ s Q, Rel C X P U σ s → Pre C l X P s → ∀ ds, m σ = some ds → (∀ a vs n s' h, Turned C.G l h s s' → s.heap.get? a = none → s'.heap.get? a = some (lobj vs n) → Rds (fun b => U b ∨ b = a) s'.heap vs.toList ds → Q (.ref a) s') → W C.G C.A t Q s
theorem SOt.e {l : Lx} {C : Cx} {t : Sem Value} {m : Fl} (h : SOt l C t m) : SEt l C t (fun σ => (m σ).map .list) := by
  intro X P U σ s Q R p d hd k
  cases e : m σ with
  | none => simp [e] at hd
  | some ds =>
    simp [e] at hd
    subst hd
    exact h X P U σ s Q R p ds e fun a vs n s' h T hn hg hr => k _ s' h T (.list (not_live hn R.ul) hg (hr.sub fun _ q => .inl q))
noncomputable def SFt (l : Lx) (G : Gx) (n : Nat) (f : Str) (F : List D → Option D) : Prop :=
  ∃ a o fd, G.mg f = some (.ref a) ∧ G.h0.get? a = some o ∧ o.data = .func fd ∧
    ∀ A X s vs ds d (Q : Value → Shared → Prop), A.handled = none → Room A n → (∀ b o, G.h0.get? b = some o → s.heap.get? b = some o ∧ ¬ X b) → (∀ a, X a → ∃ o, s.heap.get? a = some o) → G.h0.get? l.tab = none → s.heap.get? l.tab = some (tabObj #[]) → ¬ X l.tab →
      Rds X s.heap vs ds → F ds = some d → (∀ v' s' h, Turned G l h s s' → Rd X s'.heap v' d → Q v' s') → W G A (call (.ref a) vs) Q s
theorem SE_callT {l : Lx} {C : Cx} (O : C.Ok) {f : Str} {e : Expr} {es : List Expr} {p pos : Pos} {m : Fl} {F : List D → Option D} {n : Nat} (hS : SFt l C.G n f F) (hn : n ≤ C.lv) (hk : C.env.kindOf f = some .globalImplicit) (hl : SL C (e :: es) m)
    (hd : (f == ("__debug__" : Str)) = false := by decide) : SEt l C (eval (.Call (.Name f p) (e :: es) [] pos) C.env) (bindL F m) := by
  intro X P U σ s Q R pr d hd' k
  obtain ⟨a, o, fd, h1, h2, h3, h4⟩ := hS
  unfold bindL at hd'
  split at hd'
  · rename_i ds hm
    refine wpAny_Call_NameR (ld_glob O R hk h1 ?_ hd)
    refine callWith_function (o := o) (fd := fd) (evalArgs_ns starEach_ne (hl.1 _ _) (hl.2 _ X P U σ s _ R ds hm fun vs s' K r => ?_))
    refine ⟨⟨keeps_get K _ _ (R.base _ _ h2).1, h3⟩, ?_⟩
    have R' := R.keeps K
    have p' := pr.keeps K
    refine h4 C.A U s' vs ds d Q O.hd (O.room.mono hn) (fun b o e => ?_) R'.ul pr.h0 p'.tab (fun q => (R'.pu _ q).elim pr.x fun z => z pr.p) r hd' fun v' s'' h T r' => k v' s'' h (.after K pr.tab T) r'
    obtain ⟨q1, q2, q3⟩ := R'.base b o e
    exact ⟨q1, fun q => (R'.pu b q).elim q3 fun z => z q2⟩
  · cases hd'

/-- sorted(x, key=lambda), the first time -/
theorem SO_sortLamT {l : Lx} {C : Cx} (O : C.Ok) {e : Expr} {p kp pos lp : Pos} (LB : LamB C.G l.cm l.tab) {params : Arguments} {body : Expr} {scope : Scope} {x : Str} {m mb : Fe} (L : LamOk params body scope x mb) (hlp : lp = l.lp) (hcode : C.env.code = .ref l.cm) (hq : C.env.qual ++ "<lambda>" = l.q)
    (hn : 2 ≤ C.lv) (hk : C.env.kindOf "sorted" = some .globalImplicit) (h : SE C (eval e C.env) m) (hst : ∀ env, starEach [e] env = [(false, eval e env)] := by intro _; rfl) :
    SOt l C (eval (.Call (.Name "sorted" p) [e] [⟨some "key", .Lambda params body scope lp, kp⟩] pos) C.env) (oSortK (fun d => mb [.val d]) m) := by
  subst hlp
  intro X P U σ s Q R pr ds hd' k
  unfold oSortK at hd'
  split at hd'
  · rename_i ls hm
    show W C.G C.A (do callWith pos (← eval (.Name "sorted" p) C.env) [] (backTo pos (starEach [e] C.env)) (backToKw pos (keywordEach [⟨some "key", .Lambda params body scope l.lp, kp⟩] C.env))) Q s
    refine wpAny_bind (ld_blt O R hk (by decide) PyProof.Rows.Boot.«sorted» ?_ (by decide) (by decide))
    have hb : backTo pos (starEach [e] C.env) = [(false, eval e C.env)] := by rw [hst]; rfl
    refine callWith_builtin_kwB (by rw [hb]; rfl) rfl ?_
    rw [hb]
    refine evalArgs_kwB rfl (spliced_cons (h X P U σ s _ R _ hm fun v s₁ K r => spliced_nil ?_))
    have R₁ := R.keeps K
    have p₁ := pr.keeps K
    refine kws_cons (lam_miss O.g LB L O.glob hcode hq (fun b o e => (R₁.base b o e).1) p₁.tab fun f c' o s₂ pm ctv sh kp' tb cn fn ho hd hcr => kws_nil ?_)
    have uT : ∀ b, U b → b ≠ l.tab := fun b q e => (R₁.pu b q).elim (fun z => pr.x (e ▸ z)) fun z => z (e ▸ pr.p)
    have gT : ∀ b o, C.G.h0.get? b = some o → b ≠ l.tab := fun b o e z => by rw [z, pr.h0] at e; cases e
    have base₂ : ∀ b o, C.G.h0.get? b = some o → s₂.heap.get? b = some o := fun b o e => kp' b o (gT b o e) (R₁.base b o e).1
    have kq : ∀ b o, Sq o → s₁.heap.get? b = some o → s₂.heap.get? b = some o := fun b o hq e => kp' b o (fun q => by
      rw [q, p₁.tab] at e
      cases e
      obtain ⟨vs, n, z | z⟩ := hq <;> cases z) e
    obtain ⟨c₂, oc, vsc, tc, ec, gc, dc, nc⟩ := hcr
    cases ec
    have codeIn : ∀ p : Addr → Bool, p c' = true → (pickH s₂.heap p).CodeRec (.ref c') l.q := fun p hp => ⟨c', oc, vsc, tc, rfl, pick_get gc hp, dc, nc⟩
    let G3 := C.G.put (pickH s₂.heap fun a => (C.G.h0.get? a).isSome || (a == l.tab || (a == c' || a == f)))
    have sub3 : ∀ b o, C.G.h0.get? b = some o → G3.h0.get? b = some o := fun b o e => pick_get (base₂ b o e) (by rw [e]; rfl)
    have O3 : G3.Ok := Gx.put_ok O.g sub3
    have h4 : KeyFn G3 1 (.ref f) (fun d => mb [.val d]) := key_lam O3 (n := 0) L (pick_get ho (by simp)) hd (codeIn _ (by simp))
    have al : ∀ b o, s₁.heap.get? b = some o → ∃ o', s₂.heap.get? b = some o' := fun b o e => by
      by_cases q : b = l.tab
      · exact ⟨_, q ▸ tb⟩
      · exact ⟨o, kp' b o q e⟩
    cases r with
    | list hn' hg hs =>
      refine sorted_key h4 O.hd (O.room.mono hn) (fun b o e => ?_) (fun b u => ?_) (kq _ _ (Sq.l _ _) hg) (hs.quiet kq) hd' fun a' ws c s' K' hn2 hg' r' => k a' ws c s' (pickH s₂.heap fun a => (C.G.h0.get? a).isSome || (a == l.tab || a == c')) ?_ ?_ hg' r'
      · obtain ⟨e1, e2⟩ := pick_of e
        refine ⟨e1, fun u => ?_⟩
        simp only [Bool.or_eq_true, beq_iff_eq] at e2
        rcases e2 with e2 | e2 | e2 | e2
        · obtain ⟨o', e3⟩ := Option.isSome_iff_exists.mp e2
          obtain ⟨q1, q2, q3⟩ := R₁.base b o' e3
          exact (R₁.pu b u).elim q3 fun z => z q2
        · exact uT b u e2
        · obtain ⟨o', e3⟩ := R₁.ul b u
          rw [e2, cn] at e3; cases e3
        · obtain ⟨o', e3⟩ := R₁.ul b u
          rw [e2, fn] at e3; cases e3
      · obtain ⟨o, e⟩ := R₁.ul b u
        exact ⟨o, kp' b o (uT b u) e⟩
      · refine .after K pr.tab (Turned.keeps (s' := s₂) ⟨⟨fun b o e => pick_get (base₂ b o e) (by rw [e]; rfl), c', pick_get tb (by simp), codeIn _ (by simp)⟩, sh, kp', p₁.tab, fun b o e => ?_⟩ K')
        obtain ⟨e1, e2⟩ := pick_of e
        refine ⟨e1, ?_⟩
        simp only [Bool.or_eq_true, beq_iff_eq] at e2
        rcases e2 with e2 | e2 | e2
        · exact .inl (Option.isSome_iff_exists.mp e2)
        · exact .inr (.inl e2)
        · exact .inr (.inr (e2 ▸ cn))
      · cases e : s.heap.get? a' with
        | none => rfl
        | some o =>
          obtain ⟨o', z⟩ := al _ _ (keeps_get K _ _ e)
          rw [hn2] at z; cases z
  · cases hd'

/- ---- iterators, comprehensions, sums of lists ---- -/
noncomputable def SIt (l : Lx) (C : Cx) (e : Expr) (okT : Expr → Bool) (m : Fl) : Prop :=
  ∀ X P U σ s (Q : Value → Shared → Prop), Rel C X P U σ s → Pre C l X P s → ∀ ds, m σ = some ds →
    (∀ I wr Z Sta Mid s₁ s' h, Turned C.G l h s s₁ → Keeps s₁ s' → (∀ b ∈ wr, s₁.heap.get? b = none) → (∀ b ∈ wr, ¬ Z b) → (∀ b, Z b → ∃ o, s'.heap.get? b = some o ∧ Sq o) → (∀ b, Z b → ¬ U b) → It (C.G.put h) C.A Z I wr okT Sta Mid → Sta ds s'.heap → Q (.ref I) s') →
    W C.G C.A (eval e C.env) (fun x s₁ => W C.G C.A (pyIter x) Q s₁) s
theorem SI_listT {l : Lx} {C : Cx} (O : C.Ok) {e : Expr} {m : Fe} (h : SEt l C (eval e C.env) m) : SIt l C e isNT (iList m) := by
  intro X P U σ s Q R pr ds hd k
  unfold iList at hd
  split at hd <;> cases hd
  rename_i hm
  refine h X P U σ s _ R pr _ hm fun v s₁ h2 T r => ?_
  cases r with
  | list hn hg hs =>
    rename_i a vs n
    have hZ := hs.toZ
    refine wpAny_pyIter_list (IsList_of hg) ?_
    have kp : ∀ b o, s₁.heap.get? b = some o → (s₁.heap.push { cls := .type "list_iterator", data := .fields #[.ref a, .int 0 0] }).get? b = some o := fun b o e => Heap.get?_push_of_some _ e
    have za : ZU U s₁.heap a := ⟨⟨_, hg, Sq.l _ _⟩, hn⟩
    have zI : ¬ ZU U s₁.heap s₁.heap.objs.size := fun ⟨⟨o, e, _⟩, _⟩ => by rw [get_size_none] at e; cases e
    refine k s₁.heap.objs.size [s₁.heap.objs.size] (ZU U s₁.heap) _ _ s₁ _ h2 T (keeps_push _ _) (fun b hb => ?_) (fun b hb => ?_) (fun b q => ?_) (fun b q => q.2) (It_list (G := C.G.put h2) O.hd zI za (vs := vs)) ⟨0, n, ⟨_, Heap.get?_push_size _ rfl, rfl, rfl⟩, kp _ _ hg, ?_⟩
    · simp at hb
      subst hb
      exact get_size_none _
    · simp at hb; subst hb; exact zI
    · obtain ⟨⟨o, e, q⟩, _⟩ := q
      exact ⟨o, kp _ _ e, q⟩
    · simpa using hZ.kept kp
theorem SO_compT {l : Lx} {C : Cx} (O : C.Ok) {elt target iter : Expr} {ifs : List Expr} {rest : List Comprehension} {scope es : Scope} {pos : Pos} {okT : Expr → Bool} {mI : Fl} {g : St → D → Option St} {mt : Ft} {mb : Fk} {cn names : List Str} {ro : Nat} {fi : List Nat}
    (hes : C.env.scope = es) (hcn : C.names = cn) (hchk : cChk scope es cn names ro fi = true) (hI : SIt l C iter okT mI)
    (hL : ∀ h, Nx C.G l h → ∀ L, (cCx (C.put h) scope L names ro).Ok → LB (cCx (C.put h) scope L names ro) elt (⟨target, iter, ifs, 0⟩ :: rest) scope pos 0 target iter ifs okT g mt mb)
    (hs : ∀ x, foldedSetIterable iter C.env x = pure x := by intro _; rfl) :
    SOt l C (eval (.ListComp elt (⟨target, iter, ifs, 0⟩ :: rest) scope pos) C.env) (oComp mI ro fi g mt mb) := by
  subst hes hcn
  have H := cChk_ok hchk
  intro X P U σ s Q R pr ds hd k
  unfold oComp at hd
  split at hd
  · rename_i items hm
    split at hd
    · rename_i σ' es hc
      split at hd <;> cases hd
      rename_i hsh
      rw [eval_ListComp]
      refine wpAny_comprehension_free (use := none) (cl := closeL C.env.cells scope.names []) rfl hs (closureFor_is (free_lookup O H)) H.kind (fun x hx hl => nodup_lookup H.keys (hl ▸ hx)) ?_
      refine hI X P U σ s _ R pr items hm fun I wr Z Sta Mid s₁ s₂ h T K fr wz zl zu TI st => ?_
      have R₁ := R.turn pr T
      refine comp_tail (C := C.put h) (RR := fun acc L r s' => compPost (model C.G.prog C.G.w) C.A (fun _ _ => False) none Q acc L r s') (Cx.put_ok O (T.nx.ok O.g)) H (hL h T.nx) R₁ hc (short_le hsh) K fr wz zl zu TI st fun B L s' vs n m' hB hL hBL K' hn hg hr => ?_
      refine ⟨m', hn, fun h' hs' => ?_⟩
      refine k B vs n _ h (T.keeps (sameBut_keeps K' hL hs')) (T.none hB) (hs'.extBut _ _ hBL hg) (hr.quiet fun b o q e => hs'.extBut b o (fun z => ns_not_sq hn (z ▸ e) q) e)
    · cases hd
  · cases hd
theorem RdB.quiet {U : AS} {h h' : Heap} {v : Value} {d : D} (r : RdB U h v d) (k : ∀ b o, Sq o → h.get? b = some o → h'.get? b = some o) : RdB U h' v d :=
  r.imp (fun r => r.quiet k) fun ⟨a, vs, n, ds, e1, e2, hg, hs⟩ => ⟨a, vs, n, ds, e1, e2, k _ _ (Sq.l _ _) hg, hs.quiet k⟩
theorem SO_catT {l' : Lx} {C : Cx} {l r : Expr} {pos : Pos} {m1 m2 : Fe} (h1 : SB C (eval l C.env) m1) (h2 : SEt l' C (eval r C.env) m2) : SOt l' C (eval (.BinOp l .Add r pos) C.env) (oCat m1 m2) := by
  intro X P U σ s Q R pr ds hd k
  unfold oCat at hd
  split at hd
  · rename_i as e1
    split at hd
    · rename_i bs e2
      split at hd <;> cases hd
      rename_i hsh
      refine wpAny_BinOp (h1 X P U σ s _ R _ e1 fun v s₁ K r1 => ?_)
      refine h2 X P U σ s₁ _ (R.keeps K) (pr.keeps K) _ e2 fun w s₂ h T r2 => ?_
      obtain ⟨a, vs, n, rfl, hga, hra⟩ := (r1.quiet T.kq).list
      cases r2 with
      | list hnb hgb hrb =>
        rename_i b ws n'
        have l1 := hra.length
        have l2 := hrb.length
        have l3 := short_le hsh
        simp only [Array.length_toList, List.length_append] at l1 l2 l3
        refine PySem.P.add_list hga hgb ?_ (by rw [sl]; omega)
        refine k _ (vs ++ ws) 0 _ h (Turned.keeps (.after K pr.tab T) (keeps_push _ _)) ?_ (Heap.get?_push_size _ rfl) ?_
        · exact (Turned.after K pr.tab T).none (get_size_none _)
        · rw [Array.toList_append]
          exact ((hra.append hrb).fresh (get_size_none _)).kept fun b o e => Heap.get?_push_of_some _ e
    · cases hd
  · cases hd
end Pf

namespace Pf
open PySem PySem.Calls PyProof.Rows PySem.W

/- ---- statements in which the table changes ---- -/
structure TurnP (l : Lx) (C : Cx) (P : AS) (h : Heap) (s s' : Shared) : Prop where
  nx : Nx C.G l h
  shape : ∃ h' tk, s' = { s with heap := h', toks := tk }
  keep : ∀ b o, b ≠ l.tab → P b → s.heap.get? b = some o → s'.heap.get? b = some o
  base : ∀ b o, h.get? b = some o → s'.heap.get? b = some o ∧ ((∃ o', C.G.h0.get? b = some o') ∨ b = l.tab ∨ ¬ P b)
noncomputable def PostT (l : Lx) (C : Cx) (X P : AS) (s : Shared) (σ' : St) (r : Option D) (fl : Flow) (s' : Shared) : Prop :=
  ∃ h, TurnP l C P h s s' ∧ match r with
    | none => fl = .next ∧ ∃ U', Rel (C.put h) X (P2 P h) U' σ' s'
    | some d => ∃ v, fl = .ret v ∧ Rd X s'.heap v d
noncomputable def SSt (l : Lx) (C : Cx) (t : Sem Flow) (m : Fs) : Prop :=
  ∀ X P U σ s Q, Rel C X P U σ s → Pre C l X P s → ∀ σ' r, m σ = some (σ', r) → (∀ fl s', PostT l C X P s σ' r fl s' → Q fl s') → W C.G C.A t Q s
theorem Turned.p {l : Lx} {C : Cx} {h : Heap} {s s' : Shared} (T : Turned C.G l h s s') {P : AS} (pl : ∀ b, P b → ∃ o, s.heap.get? b = some o) : TurnP l C P h s s' :=
  ⟨T.nx, T.shape, fun b o n _ e => T.keep b o n e, fun b o e => ⟨(T.base b o e).1, (T.base b o e).2.imp id fun z => z.imp id fun z q => by obtain ⟨o, y⟩ := pl b q; rw [z] at y; cases y⟩⟩
theorem TurnP.post {l : Lx} {C : Cx} {X P : AS} {h : Heap} {s s₁ s₂ : Shared} {σ : St} {r : Option D} {fl : Flow} (T : TurnP l C P h s s₁) (p : Post (C.put h) X (P2 P h) s₁ σ r fl s₂) : PostT l C X P s σ r fl s₂ := by
  obtain ⟨p1, p2, p3⟩ := p
  exact ⟨h, ⟨T.nx, shape_trans T.shape p1, fun b o n q e => p2 b o (.inl q) (T.keep b o n q e), fun b o e => ⟨p2 b o (.inr ⟨o, e⟩) (T.base b o e).1, (T.base b o e).2⟩⟩, p3⟩
theorem TurnP.before {l : Lx} {C : Cx} {P : AS} {h : Heap} {s s₁ s₂ : Shared} (p1 : ∃ h' tk, s₁ = { s with heap := h', toks := tk }) (p2 : ∀ b o, P b → s.heap.get? b = some o → s₁.heap.get? b = some o) (T : TurnP l C P h s₁ s₂) : TurnP l C P h s s₂ :=
  ⟨T.nx, shape_trans p1 T.shape, fun b o n q e => T.keep b o n q (p2 b o q e), T.base⟩
theorem PostT.before {l : Lx} {C : Cx} {X P : AS} {s s₁ s₂ : Shared} {σ : St} {r : Option D} {fl : Flow} (p1 : ∃ h' tk, s₁ = { s with heap := h', toks := tk }) (p2 : ∀ b o, P b → s.heap.get? b = some o → s₁.heap.get? b = some o) (p : PostT l C X P s₁ σ r fl s₂) : PostT l C X P s σ r fl s₂ := by
  obtain ⟨h, T, q⟩ := p
  exact ⟨h, T.before p1 p2, q⟩
theorem Pre.post {C : Cx} {l : Lx} {X P : AS} {s s' : Shared} (p : Pre C l X P s) (kp : ∀ b o, P b → s.heap.get? b = some o → s'.heap.get? b = some o) : Pre C l X P s' := ⟨p.h0, kp _ _ p.p p.tab, p.x, p.p⟩

noncomputable def sSeqT (m1 m2 : Fs) : Fs := fun σ => match m1 σ with
  | some (σ', none) => m2 σ'
  | _ => none
theorem SSt_cons1 {l : Lx} {C : Cx} {st : Stmt} {rest : List Stmt} {m1 m2 : Fs} (h1 : SS C (exec st C.env) m1) (h2 : SSt l C (execs rest C.env) m2) : SSt l C (execs (st :: rest) C.env) (sSeqT m1 m2) := by
  intro X P U σ s Q R pr σ' r hd k
  unfold sSeqT at hd
  refine wpAny_execs_cons ?_
  split at hd
  · rename_i σ₁ e
    refine h1 X P U σ s _ R σ₁ none e fun fl s₁ p => ?_
    obtain ⟨p1, p2, rfl, U', R'⟩ := p
    exact h2 X P U' σ₁ s₁ _ R' (pr.post p2) σ' r hd fun fl s₂ p' => k fl s₂ (.before p1 p2 p')
  · cases hd
theorem SSt_cons2 {l : Lx} {C : Cx} {st : Stmt} {rest : List Stmt} {m1 m2 : Fs} (h1 : SSt l C (exec st C.env) m1) (h2 : ∀ h, Nx C.G l h → SS (C.put h) (execs rest C.env) m2) : SSt l C (execs (st :: rest) C.env) (sSeq m1 m2) := by
  intro X P U σ s Q R pr σ' r hd k
  unfold sSeq at hd
  refine wpAny_execs_cons ?_
  split at hd
  · rename_i σ₁ e
    refine h1 X P U σ s _ R pr σ₁ none e fun fl s₁ p => ?_
    obtain ⟨h, T, rfl, U', R'⟩ := p
    exact h2 h T.nx X (P2 P h) U' σ₁ s₁ _ R' σ' r hd fun fl s₂ p' => k fl s₂ (T.post p')
  · rename_i σ₁ d e
    cases hd
    refine h1 X P U σ s _ R pr _ (some d) e fun fl s₁ p => ?_
    have p' := p
    obtain ⟨h, T, v, rfl, hr⟩ := p
    exact k _ s₁ p'
  · cases hd
theorem SSt_one {l : Lx} {C : Cx} {st : Stmt} {m1 : Fs} (h1 : SSt l C (exec st C.env) m1) : SSt l C (execs [st] C.env) (sSeq m1 sNil) := SSt_cons2 h1 fun _ _ => SS_nil
theorem SSt_asg {l : Lx} {C : Cx} (O : C.Ok) {e : Expr} {i : Nat} {x : Str} {p pos : Pos} {m : Fe} (h : SEt l C (eval e C.env) m) (hx : C.names[i]? = some x) (hi : i < C.ro) (hs : swapsWith e (some (.Name x p)) pos.line C.env = pure false := by rfl) :
    SSt l C (exec (.Assign [.Name x p] e pos) C.env) (sAsg m (gName i)) := by
  intro X P U σ s Q R pr σ' r hd k
  unfold sAsg at hd
  split at hd
  · rename_i d hm
    simp only [gName] at hd
    cases hd
    refine wpAny_Assign_Name (h X P U σ s _ R pr d hm fun v s₁ h2 T q => ?_) hs
    have R₁ := R.turn pr T
    obtain ⟨ρ, V⟩ := R₁.vars
    have O₁ := Cx.put_ok O (T.nx.ok O.g)
    refine st_name (C := C.put h2) O₁ R₁ V.fr hi hx fun h' tk qc F => ?_
    exact k _ _ (TurnP.post (T.p (C := C) R.pl) (Upd1.post ⟨⟨_, _, rfl⟩, qc, (R₁.stored O₁ V hx hi qc F (.val d) ⟨v, upd_eq, q⟩ fun ds a e => by cases e).1⟩))
  · cases hd
theorem SSt_ret {l : Lx} {C : Cx} {e : Expr} {pos : Pos} {m : Fe} (h : SEt l C (eval e C.env) m) : SSt l C (exec (.Return (some e) pos) C.env) (sRet m) := by
  intro X P U σ s Q R pr σ' r hd k
  unfold sRet at hd
  split at hd <;> cases hd
  rename_i d hm
  exact wpAny_Return_some (h X P U _ s _ R pr d hm fun v s' h T q => k _ s' ⟨h, T.p R.pl, v, rfl, q.sub R.xu⟩)
theorem SSt_asgComp {l : Lx} {C : Cx} (O : C.Ok) {elt target iter : Expr} {ifs : List Expr} {rest : List Comprehension} {scope es : Scope} {pos spos py : Pos} {okT : Expr → Bool} {mI : Fl} {g : St → D → Option St} {mt : Ft} {mb : Fk} {cn names : List Str} {ro : Nat} {fi : List Nat} {i : Nat} {y : Str}
    (hx : C.names[i]? = some y) (hi : i < C.ro) (hes : C.env.scope = es) (hcn : C.names = cn) (hchk : cChk scope es cn names ro fi = true) (hI : SIt l C iter okT mI)
    (hL : ∀ h, Nx C.G l h → ∀ L, (cCx (C.put h) scope L names ro).Ok → LB (cCx (C.put h) scope L names ro) elt (⟨target, iter, ifs, 0⟩ :: rest) scope pos 0 target iter ifs okT g mt mb)
    (hsw : swapsWith (.ListComp elt (⟨target, iter, ifs, 0⟩ :: rest) scope pos) (some (.Name y py)) spos.line C.env = pure true)
    (hs : ∀ x, foldedSetIterable iter C.env x = pure x := by intro _; rfl) :
    SSt l C (exec (.Assign [.Name y py] (.ListComp elt (⟨target, iter, ifs, 0⟩ :: rest) scope pos) spos) C.env) (sAsgO (oComp mI ro fi g mt mb) i) := by
  subst hes hcn
  have H := cChk_ok hchk
  intro X P U σ s Q R pr σ' r hd k
  unfold sAsgO at hd
  split at hd <;> cases hd
  rename_i ds hd
  unfold oComp at hd
  split at hd
  · rename_i items hm
    split at hd
    · rename_i σ' es hc
      split at hd <;> cases hd
      rename_i hsh
      rw [exec_Assign_Name_used _ _ _ _ hsw]
      refine wpAny_bind (wpAny_standAt (wpAny_bind ?_))
      show wpAny _ C.A (do let _ ← comprehension (.ListComp elt (⟨target, iter, ifs, 0⟩ :: rest) scope pos) scope C.env _ (newList []) false (eval iter C.env) (some (assign (.Name y py) C.env))) _ _ s
      refine wpAny_bind (wpAny_mono (wpAny_comprehension_free (use := some (assign (.Name y py) C.env)) (Q := fun _ s' => Q .next s') (E := fun _ _ => False) (cl := closeL C.env.cells scope.names []) rfl hs (closureFor_is (free_lookup O H)) H.kind (fun x hx hl => nodup_lookup H.keys (hl ▸ hx)) ?_) (fun _ s' hq => wpAny_pure (wpAny_pure hq)) fun _ _ f => f.elim)
      refine hI X P U σ s _ R pr items hm fun I wr Z Sta Mid s₁ s₂ h T K fr wz zl zu TI st => ?_
      have R₁ := R.turn pr T
      have O₁ := Cx.put_ok O (T.nx.ok O.g)
      refine comp_tail (C := C.put h) (RR := fun acc L r s' => compPost (model C.G.prog C.G.w) C.A (fun _ _ => False) (some (assign (.Name y py) C.env)) (fun _ s' => Q .next s') acc L r s') O₁ H (hL h T.nx) R₁ hc (short_le hsh) K fr wz zl zu TI st fun B L s' vs n m' hB hL hBL K' hn hg hr => ?_
      exact asgComp_end (C := C.put h) O₁ hx hi R₁ hB hL hBL K' hn hg hr fun fl s'' p => k fl s'' (TurnP.post (T.p (C := C) R.pl) p)
    · cases hd
  · cases hd

/- ---- for ---- -/
theorem It.put {G : Gx} {A : Around} {Z : AS} {I : Addr} {wr : List Addr} {okT : Expr → Bool} {Sta : List D → Heap → Prop} {Mid : Value → List D → Heap → Prop} (T : It G A Z I wr okT Sta Mid) (h : Heap) : It (G.put h) A Z I wr okT Sta Mid :=
  ⟨T.frame, T.alive, T.aliveM, T.item, T.go, T.done, T.self⟩
theorem Rel.unloop2 {C : Cx} {X PL U : AS} {σ : St} {s s' : Shared} {wr : List Addr} (R : Rel C (fun b => X b ∨ b ∈ wr) PL U σ s) (P' : AS) (hPL : ∀ b, P' b → PL b) (xw : ∀ b, X b → b ∉ wr) (xp : ∀ b, X b → P' b) (pw : ∀ b, P' b → b ∉ wr) (bp : ∀ b o, C.G.h0.get? b = some o → P' b)
    (hk : ∀ b o, b ∉ wr → s.heap.get? b = some o → s'.heap.get? b = some o) : Rel C X P' (fun b => U b ∧ b ∉ wr) σ s' := by
  obtain ⟨ρ, V⟩ := R.vars
  have hk' : ∀ b o, ¬ U b → s.heap.get? b = some o → s'.heap.get? b = some o := fun b o q e => hk b o (fun w => q (R.xu b (.inr w))) e
  refine ⟨fun b o e => ⟨hk b o (fun w => (R.base b o e).2.2 (.inr w)) (R.base b o e).1, bp b o e, fun q => (R.base b o e).2.2 (.inl q)⟩, fun b q => ⟨R.xu b (.inl q), xw b q⟩, xp, fun b q => let ⟨o, e⟩ := R.ul b q.1; ⟨o, hk b o q.2 e⟩, fun b q => ?_, fun b q => ?_, fun q => R.pL (hPL _ q), fun i x c hi hx hk hc q => R.pC i x c hi hx hk hc (hPL _ q), fun i x c hx hk hc q => R.xC i x c hx hk hc q.1, R.len, ρ, ⟨?_, fun x c hm hx hc => ?_⟩, fun i x sl hx hs => ?_, V.one, V.fx⟩
  · obtain ⟨o, e⟩ := R.pl b (hPL b q)
    exact ⟨o, hk b o (pw b q) e⟩
  · rcases R.pu b q.1 with z | z
    · exact z.elim .inl fun w => absurd w q.2
    · exact .inr fun y => z (hPL b y)
  · obtain ⟨m, ⟨o, es, ep, ho, hr⟩, e⟩ := V.fr.ns
    exact ⟨m, ⟨o, es, ep, hk _ _ (fun q => R.pL (R.xp _ (.inr q))) ho, hr⟩, e⟩
  · obtain ⟨i, hi⟩ := List.getElem?_of_mem hm
    obtain ⟨o, ho, hd⟩ := V.fr.cell x c hm hx hc
    exact ⟨o, hk' _ _ (fun q => R.xC i x c hi hx hc q) ho, hd⟩
  · have := V.slot i x sl hx hs
    cases sl with
    | un => trivial
    | val d => obtain ⟨v, g1, g2⟩ := this; exact ⟨v, g1, g2.mono (fun _ q => q.1) hk'⟩
    | own ds =>
      obtain ⟨a, vs, n, g1, g2, g3, g4, g5⟩ := this
      exact ⟨a, vs, n, g1, ⟨g2, fun q => g3 (R.xp _ (.inr q))⟩, fun q => g3 (hPL _ q), hk _ _ (fun q => g3 (R.xp _ (.inr q))) g4, g5.mono (fun _ q => q.1) hk'⟩

noncomputable def sForT (m : Fl) (g : St → D → Option St) (b1 b : Fs) : Fs := fun σ => match m σ with
  | some (d :: ds) => (match g σ d with
    | some σ₁ => (match b1 σ₁ with
      | some (σ₂, none) => sForL g b ds σ₂
      | _ => none)
    | none => none)
  | _ => none
theorem SSt_for {l : Lx} {C : Cx} (O : C.Ok) {t e : Expr} {b : List Stmt} {pos : Pos} {okT : Expr → Bool} {m : Fl} {g : St → D → Option St} {mb1 mb : Fs} (hI : SI C e okT m) (ht : TG C t g) (hok : okT t = true) (hb1 : SSt l C (execs b C.env) mb1)
    (ht2 : ∀ h, Nx C.G l h → TG (C.put h) t g) (hb : ∀ h, Nx C.G l h → SS (C.put h) (execs b C.env) mb)
    (hs : ∀ x, foldedSetIterable e C.env x = pure x := by intro _; rfl) : SSt l C (exec (.For t e b [] pos) C.env) (sForT m g mb1 mb) := by
  intro X P U σ s Q R pr σ' r hd k
  unfold sForT at hd
  split at hd
  · rename_i d ds hm
    refine wpAny_For (hI X P U σ s _ R _ hm fun I wr Z Sta Mid s₁ K fr wz zl zu T st => ?_) hs
    have R₁ := R.loop K fr (T.alive _ s₁.heap st) zl zu
    have pw : ∀ b o, s.heap.get? b = some o → b ∉ wr := fun b o e q => not_live' e (fr b q)
    have xw : ∀ b, X b → b ∉ wr := fun b q w => by obtain ⟨o, e⟩ := R.ul b (R.xu b q); exact not_live' e (fr b w)
    have tw : l.tab ∉ wr := pw _ _ pr.tab
    have Ppw : ∀ b, P b → b ∉ wr := fun b q w => by obtain ⟨o, e⟩ := R.pl b q; exact pw b o e w
    have pr₁ : Pre C l (fun b => X b ∨ b ∈ wr) (fun b => P b ∨ Z b ∨ b ∈ wr) s₁ := ⟨pr.h0, keeps_get K _ _ pr.tab, fun q => q.elim pr.x tw, .inl pr.p⟩
    refine codeAny_forLoop_any (fun n s' => (n = ds.length + 1 ∧ s' = s₁) ∨ ∃ h rest σk Uk, n = rest.length ∧ sForL g mb rest σk = some (σ', r) ∧ Sta rest s'.heap ∧ Rel (C.put h) (fun b => X b ∨ b ∈ wr) (P2 (fun b => P b ∨ Z b ∨ b ∈ wr) h) Uk σk s' ∧
      TurnP l C P h s s' ∧ (∀ b o, h.get? b = some o → b ∉ wr)) ?_ (ds.length + 1) (.inl ⟨rfl, rfl⟩)
    rintro n s₂ (⟨rfl, rfl⟩ | ⟨h, rest, σk, Uk, rfl, hk, sta, Rk, TP, hw⟩)
    · -- the first turn
      have fb : ∀ {σk Uk s₂ h' tk}, Rel C (fun b => X b ∨ b ∈ wr) (fun b => P b ∨ Z b ∨ b ∈ wr) Uk σk s₂ → (∀ b o, b ∉ wr → s₂.heap.get? b = some o → h'.get? b = some o) → (∀ b ∈ wr, ∃ o, h'.get? b = some o) →
          Rel C (fun b => X b ∨ b ∈ wr) (fun b => P b ∨ Z b ∨ b ∈ wr) Uk σk { s₂ with heap := h', toks := tk } := fun {σk Uk s₂ h' tk} Rk hk' al =>
        Rk.forbid (s' := { s₂ with heap := h', toks := tk }) (fun b o q e => hk' b o (fun w => q (.inr w)) e) fun b q => q.elim (fun q => by
          obtain ⟨o, e⟩ := Rk.ul b (Rk.xu b (.inl q))
          exact ⟨o, hk' b o (xw b q) e⟩) (al b)
      refine W.any (T.item d ds s₂ _ st fun v h₃ tk₃ hk₃ hv mid => ?_)
      have R₃ := fb (tk := tk₃) R₁ hk₃ (T.aliveM _ _ _ mid)
      have hvU : Rd (fun b => U b ∨ b ∈ wr) h₃ v d := hv _ (fun a q z => q.elim (fun q => zu a z q) fun w => wz a w z) R₁.ul
      split at hd
      · rename_i σ₁ e1
        refine W.any (T.go t v ds _ _ hok mid fun h₄ hk₄ sta₄ => ?_)
        have R₄ := fb (tk := tk₃) R₃ hk₄ (T.alive _ _ sta₄)
        have hv₄ : Rd (fun b => U b ∨ b ∈ wr) h₄ v d := hvU.mono (fun _ q => q) fun b o q e => hk₄ b o (fun w => q (.inr w)) e
        refine W.any (ht _ _ _ σ _ v d σ₁ _ R₄ hv₄ e1 fun s₅ u => ?_)
        obtain ⟨u1, u2, R₅⟩ := u
        have sta₅ : Sta ds s₅.heap := T.frame _ _ _ sta₄ fun b o q e => u2.kp b o (.inr q) e
        have kp₅ : ∀ b o, P b → s.heap.get? b = some o → s₅.heap.get? b = some o := fun b o p e => u2.kp b o (.inl p) (hk₄ b o (pw b o e) (hk₃ b o (pw b o e) (keeps_get K b o e)))
        have lv₅ : ∀ b o, s.heap.get? b = some o → ∃ o', s₅.heap.get? b = some o' := fun b o e => u2.lv b o (hk₄ b o (pw b o e) (hk₃ b o (pw b o e) (keeps_get K b o e)))
        have sh₅ : ∃ h' tk, s₅ = { s with heap := h', toks := tk } := shape_trans (shape_trans (keeps_shape K) ⟨h₄, tk₃, rfl⟩) u1
        have pr₅ : Pre C l (fun b => X b ∨ b ∈ wr) (fun b => P b ∨ Z b ∨ b ∈ wr) s₅ := ⟨pr.h0, kp₅ _ _ pr.p pr.tab, pr₁.x, pr₁.p⟩
        have wl₅ : ∀ b ∈ wr, ∃ o, s₅.heap.get? b = some o := T.alive _ _ sta₅
        split at hd
        · rename_i σ₂ e2
          refine W.any (hb1 _ _ _ σ₁ s₅ _ R₅ pr₅ σ₂ none e2 fun fl s₆ p => ?_)
          obtain ⟨h, TP, rfl, U', R₆⟩ := p
          refine ⟨ds.length, Nat.lt_succ_self _, .inr ⟨h, ds, σ₂, U', rfl, hd, T.frame _ _ _ sta₅ fun b o q e => TP.keep b o (fun z => ?_) (.inr q) e, R₆, ?_, fun b o e w => ?_⟩⟩
          · have : s₅.heap.get? l.tab = some o := z ▸ e
            rw [pr₅.tab] at this
            cases this
            rcases q with q | q
            · obtain ⟨o2, e2, vs, n, z2⟩ := zl b q
              rw [z, pr₁.tab] at e2
              cases e2
              rcases z2 with z2 | z2 <;> cases z2
            · exact tw (z ▸ q)
          · exact ⟨TP.nx, shape_trans sh₅ TP.shape, fun b o n q e => TP.keep b o n (.inl q) (kp₅ b o q e), fun b o e => ⟨(TP.base b o e).1, (TP.base b o e).2.imp id fun z => z.imp id fun z q => z (.inl q)⟩⟩
          · rcases (TP.base b o e).2 with ⟨o', z⟩ | z | z
            · exact pw b o' (R.base b o' z).1 w
            · exact tw (z ▸ w)
            · exact z (.inr (.inr w))
        · cases hd
      · cases hd
    · -- the others
      have O₂ := Cx.put_ok O (TP.nx.ok O.g)
      have T₂ := T.put h
      have tab2 : ∃ o, h.get? l.tab = some o := let ⟨c', h1, _⟩ := TP.nx.ph; ⟨_, h1⟩
      have fb : ∀ {σk Uk s₂ h' tk}, Rel (C.put h) (fun b => X b ∨ b ∈ wr) (P2 (fun b => P b ∨ Z b ∨ b ∈ wr) h) Uk σk s₂ → (∀ b o, b ∉ wr → s₂.heap.get? b = some o → h'.get? b = some o) → (∀ b ∈ wr, ∃ o, h'.get? b = some o) →
          Rel (C.put h) (fun b => X b ∨ b ∈ wr) (P2 (fun b => P b ∨ Z b ∨ b ∈ wr) h) Uk σk { s₂ with heap := h', toks := tk } := fun {σk Uk s₂ h' tk} Rk hk' al =>
        Rk.forbid (s' := { s₂ with heap := h', toks := tk }) (fun b o q e => hk' b o (fun w => q (.inr w)) e) fun b q => q.elim (fun q => by
          obtain ⟨o, e⟩ := Rk.ul b (Rk.xu b (.inl q))
          exact ⟨o, hk' b o (xw b q) e⟩) (al b)
      have kpw : ∀ {s₂ h' tk}, TurnP l C P h s s₂ → (∀ b o, b ∉ wr → s₂.heap.get? b = some o → h'.get? b = some o) → TurnP l C P h s { s₂ with heap := h', toks := tk } := fun {s₂ h' tk} TP hk' =>
        ⟨TP.nx, shape_trans TP.shape ⟨h', tk, rfl⟩, fun b o n q e => hk' b o (Ppw b q) (TP.keep b o n q e), fun b o e => ⟨hk' b o (hw b o e) (TP.base b o e).1, (TP.base b o e).2⟩⟩
      have kpp : ∀ {s₂ s₃ : Shared}, TurnP l C P h s s₂ → (∃ h' tk, s₃ = { s₂ with heap := h', toks := tk }) → (∀ b o, P2 (fun b => P b ∨ Z b ∨ b ∈ wr) h b → s₂.heap.get? b = some o → s₃.heap.get? b = some o) → TurnP l C P h s s₃ := fun {s₂ s₃} TP sh kp =>
        ⟨TP.nx, shape_trans TP.shape sh, fun b o n q e => kp b o (.inl (.inl q)) (TP.keep b o n q e), fun b o e => ⟨kp b o (.inr ⟨o, e⟩) (TP.base b o e).1, (TP.base b o e).2⟩⟩
      cases rest with
      | nil =>
        simp only [sForL] at hk
        cases hk
        refine W.any (T₂.done s₂ _ sta fun h' tk hk' => ?_)
        have R₃ := Rel.unloop2 (C := C.put h) (s' := { s₂ with heap := h', toks := tk }) Rk (P2 P h) (fun b q => q.imp .inl id) xw (fun b q => .inl (R.xp b q)) (fun b q => q.elim (Ppw b) fun ⟨o, e⟩ => hw b o e) (fun b o e => .inr ⟨o, e⟩) hk'
        exact wpAny_execs_nil (k _ _ ⟨h, kpw TP hk', rfl, _, R₃⟩)
      | cons d rest =>
        simp only [sForL] at hk
        refine W.any (T₂.item d rest s₂ _ sta fun v h₃ tk₃ hk₃ hv mid => ?_)
        have R₃ := fb (tk := tk₃) Rk hk₃ (T₂.aliveM _ _ _ mid)
        have hvU : Rd Uk h₃ v d := hv Uk (fun a q z => (Rk.pu a q).elim (fun q => q.elim (fun q => zu a z (R.xu a q)) fun w => wz a w z) fun y => y (.inl (.inr (.inl z)))) Rk.ul
        split at hk
        · rename_i σ₁ e1
          refine W.any (T₂.go t v rest _ _ hok mid fun h₄ hk₄ sta₄ => ?_)
          have R₄ := fb (tk := tk₃) R₃ hk₄ (T₂.alive _ _ sta₄)
          have hv₄ : Rd Uk h₄ v d := by
            refine Rd.mono (fun _ q => q) (fun b o q e => hk₄ b o (fun w => q (Rk.xu b (.inr w))) e) hvU
          refine W.any (ht2 h TP.nx _ _ Uk σk _ v d σ₁ _ R₄ hv₄ e1 fun s₅ u => ?_)
          obtain ⟨u1, u2, R₅⟩ := u
          have sta₅ : Sta rest s₅.heap := T₂.frame _ _ _ sta₄ fun b o q e => u2.kp b o (.inl (.inr q)) e
          have TP₅ := kpp (kpw (tk := tk₃) (kpw (tk := tk₃) TP hk₃) hk₄) u1 u2.kp
          split at hk
          · rename_i σ₂ e2
            refine W.any (hb h TP.nx _ _ Uk σ₁ s₅ _ R₅ σ₂ none e2 fun fl s₆ p => ?_)
            obtain ⟨p1, p2, rfl, U', R₆⟩ := p
            exact ⟨rest.length, Nat.lt_succ_self _, .inr ⟨h, rest, σ₂, U', rfl, hk, T₂.frame _ _ _ sta₅ fun b o q e => p2 b o (.inl (.inr q)) e, R₆, kpp TP₅ p1 p2, hw⟩⟩
          · rename_i σ₂ r' e2
            cases hk
            refine W.any (hb h TP.nx _ _ Uk σ₁ s₅ _ R₅ _ (some r') e2 fun fl s₆ p => ?_)
            obtain ⟨p1, p2, v', rfl, hv'⟩ := p
            exact k _ _ ⟨h, kpp TP₅ p1 p2, v', rfl, hv'.sub fun _ q => .inl q⟩
          · cases hk
        · cases hk
  · cases hd
end Pf

namespace Pf
open PySem PySem.Calls PyProof.Rows PySem.W

/- ---- a def, called when the table changes ---- -/
theorem SFt_def {l : Lx} {G : Gx} (O : G.Ok) {n : Nat} {d : DefRec} (hd : d ∈ G.defs) {pn names : List Str} {m : Fs} (hck : fChk d.scope names = true) (htk : names.take pn.length = pn)
    (hbind : ∀ pm code doc vs, vs.length = pn.length → bindArgs (fdOf d pm code doc) ⟨vs, []⟩ = pure (pn.zip vs))
    {CK : Value → Prop} (hc : ∀ a o pm code doc, G.mg d.name = some (.ref a) → G.h0.get? a = some o → o.data = .func (fdOf d pm code doc) → CK code)
    (hb : ∀ A pm code doc L a, CK code → (fCx G A (fdOf d pm code doc) L a names n names.length fun _ => none).Ok → SSt l (fCx G A (fdOf d pm code doc) L a names n names.length fun _ => none) (execs d.body (fCx G A (fdOf d pm code doc) L a names n names.length fun _ => none).env) m) :
    SFt l G (n + 1) d.name (fBody m pn names) := by
  obtain ⟨a, o, pm, code, doc, h1, h2, h3, h4⟩ := O.T.fn d hd
  refine ⟨a, o, _, h1, h2, h3, ?_⟩
  intro A X s vs ds dd Q hA hR base xl h0 ht nX hr hF k
  have pl0 : ∀ b, (∃ o, s.heap.get? b = some o) → ∃ o, s.heap.get? b = some o := fun _ q => q
  unfold fBody at hF
  split at hF
  · rename_i hlen
    have hlen := Nat.eq_of_beq_eq_true hlen
    have hl : vs.length = pn.length := by rw [hr.length]; exact hlen
    have hnd := (fChk_kinds hck).2.2.2.1
    have pnd : pn.Nodup := htk ▸ List.Sublist.nodup (List.take_sublist _ _) hnd
    have ple : pn.length ≤ names.length := by
      have := congrArg List.length htk
      simp at this
      omega
    refine call_entry O hck (fun x hx => List.mem_of_mem_take (by rw [htk]; exact hx)) (hbind pm code doc) hA hR (base a o h2).1 h3 h4 (fun b o e => (base b o e).1) hl fun s₁ I => ?_
    have small : ∀ (i : Nat) sl, (fInit ds names.length)[i]? = some sl → (∃ d, ds[i]? = some d ∧ sl = .val d) ∨ sl = .un := fun i sl hs => by
      unfold fInit at hs
      by_cases q : i < ds.length
      · rw [List.getElem?_append_left (by simpa using q), List.getElem?_map, List.getElem?_eq_getElem q] at hs
        simp only [Option.map_some, Option.some.injEq] at hs
        exact .inl ⟨_, List.getElem?_eq_getElem q, hs.symm⟩
      · rw [List.getElem?_append_right (by simp; omega), List.getElem?_replicate] at hs
        split at hs <;> cases hs
        exact .inr rfl
    have sl1 : ∀ (i : Nat) x sl, names[i]? = some x → (fInit ds names.length)[i]? = some sl → sl = .un ∨ ∃ v, (x, v) ∈ pn.zip vs ∧ SlotOk (fun b => ∃ o, s.heap.get? b = some o) X s.heap (fun _ => some v) "" sl := fun i x sl hx hs => by
      rcases small i sl hs with ⟨d', hd', rfl⟩ | rfl
      · refine .inr ?_
        obtain ⟨v, hv, hrd⟩ := hr.get hd'
        have hi : i < pn.length := by have := (List.getElem?_eq_some_iff.mp hv).1; omega
        refine ⟨v, List.mem_of_getElem? (i := i) ?_, v, rfl, hrd⟩
        rw [List.getElem?_zip_eq_some]
        refine ⟨?_, hv⟩
        rw [← htk, List.getElem?_take, if_pos hi]; exact hx
      · exact .inl rfl
    have ER := entry_rel (σ := fInit ds names.length) (X := X) (U := X) (P := fun b => ∃ o, s.heap.get? b = some o) (pin := names.length) (fx := fun _ => none) O hA hR (fd := fdOf d pm code doc) rfl rfl hck hl I (fun b o e => ⟨(base b o e).1, ⟨o, (base b o e).1⟩, (base b o e).2⟩) (fun _ q => q) xl xl (fun _ q => q) (fun _ q => .inl q)
      (by simp [fInit]; omega) pnd sl1 (fun i x hi hx => absurd (List.getElem?_eq_some_iff.mp hx).1 (by omega)) (fun i j x y es fs b _ _ hi hj _ _ => by rcases small i _ hi with ⟨_, _, q⟩ | q <;> cases q)
    obtain ⟨OC, R⟩ := ER
    have hb := hb A pm code doc s.heap.objs.size a (hc a o pm code doc h1 h2 h3) OC
    have pr : Pre (fCx G A (fdOf d pm code doc) s.heap.objs.size a names n names.length fun _ => none) l X (fun b => ∃ o, s.heap.get? b = some o) s₁ := ⟨h0, I.toInCall.keep _ _ ht, nX, ⟨_, ht⟩⟩
    have fin : ∀ {h s₂}, TurnP l (fCx G A (fdOf d pm code doc) s.heap.objs.size a names n names.length fun _ => none) (fun b => ∃ o, s.heap.get? b = some o) h s₁ s₂ → Turned G l h s s₂ := fun {h s₂} T =>
      ⟨T.nx, shape_trans I.toInCall.same T.shape, fun b o q e => T.keep b o q ⟨o, e⟩ (I.toInCall.keep b o e), ht, fun b o e => ⟨(T.base b o e).1, (T.base b o e).2.imp id fun z => z.imp id fun z => by
        cases q : s.heap.get? b with
        | none => rfl
        | some o' => exact absurd ⟨o', q⟩ z⟩⟩
    split at hF
    · rename_i σ' d' e
      cases hF
      refine hb X _ X _ s₁ _ R pr σ' (some dd) e fun fl s₂ p => ?_
      obtain ⟨h, T, v, rfl, hv⟩ := p
      exact k v _ h (fin T) hv
    · rename_i σ' e
      cases hF
      refine hb X _ X _ s₁ _ R pr σ' none e fun fl s₂ p => ?_
      obtain ⟨h, T, rfl, _⟩ := p
      exact k .none _ h (fin T) .none
    · cases hF
  · cases hF
end Pf

namespace Pf
open PySem PySem.Calls PyProof.Rows PySem.W

noncomputable def stDef : Stmt → Option DefRec
  | .FunctionDef name a b _ _ _ sc _ _ pos => some ⟨name, a, b, sc, pos⟩
  | _ => none
noncomputable def theDefs : List DefRec := PySem.Challenge.pw_pf0054_01.main.body.filterMap stDef
noncomputable def dr (i : Nat) : DefRec := (theDefs[i]?).getD ⟨"", ⟨[], [], none, [], [], none, []⟩, [], default, default⟩
theorem len_theDefs : theDefs.length = 53 := by kernel_rfl
theorem dr_in {i : Nat} (h : Nat.blt i 53 = true) : dr i ∈ theDefs := by
  have h := (PySem.W.Z.blt_iff).mp h
  have hi : i < theDefs.length := by rw [len_theDefs]; exact h
  unfold dr
  rw [List.getElem?_eq_getElem hi]
  exact List.getElem_mem hi

/-- the lambda of _law_monic, its code, and the table in which its code is laid -/
noncomputable def theL : Lx := { cm := 343, tab := 341, lp := ⟨268, 51, 268, 72⟩, q := ((dr 48).name ++ ".<locals>.") ++ "<lambda>" }
noncomputable def MonC (G : Gx) : Prop := ∀ a o pm code doc, G.mg (dr 48).name = some (.ref a) → G.h0.get? a = some o → o.data = .func (fdOf (dr 48) pm code doc) → code = .ref theL.cm
theorem lam_bind {fd : FuncData} {v : Value} {params : Arguments} {x : Str} (h1 : fd.params = params) (h2 : fd.defaults = .none) (h3 : fd.kwdefaults = .none)
    (h : bindArgs { fd with params := params, defaults := .none, kwdefaults := .none } ⟨[v], []⟩ = pure ([x].zip [v])) : bindArgs fd ⟨[v], []⟩ = pure ([x].zip [v]) := by
  cases fd
  dsimp only at h1 h2 h3
  subst h1 h2 h3
  exact h
noncomputable def F_never : List D → Option D := fun _ => none
theorem SF_never {G : Gx} (O : G.Ok) {n : Nat} {d : DefRec} (hd : d ∈ G.defs) : SF G n d.name F_never := by
  obtain ⟨a, o, pm, code, doc, h1, h2, h3, h4⟩ := O.T.fn d hd
  exact ⟨a, o, _, h1, h2, h3, fun A X s vs ds d Q _ _ _ _ _ hf _ => by cases hf⟩
noncomputable def eO (m : Fl) : Fe := fun σ => (m σ).map .list
theorem SO.eo {C : Cx} {t : Sem Value} {m : Fl} (h : SO C t m) : SE C t (eO m) := h.e
noncomputable def sFrz (i : Nat) (m : Fs) : Fs := fun σ => m (frz i σ)
theorem SS_frz' {C : Cx} {t : Sem Flow} {m : Fs} (i : Nat) (h : SS C t m) : SS C t (sFrz i m) := SS_frz i h
noncomputable def sSeqF (i : Nat) (m : Fs) : Fs := fun σ => match m σ with
  | some (σ', r) => some (frz i σ', r)
  | none => none
theorem SS_seqF {C : Cx} {t : Sem Flow} {m : Fs} (i : Nat) (h : SS C t m) : SS C t (sSeqF i m) := by
  intro X P U σ s Q R σ' r hd k
  unfold sSeqF at hd
  split at hd <;> cases hd
  rename_i σ₁ e
  refine h X P U σ s Q R σ₁ r e fun fl s' p => k fl s' ?_
  obtain ⟨p1, p2, p3⟩ := p
  refine ⟨p1, p2, ?_⟩
  cases r with
  | none =>
    obtain ⟨q1, U', R'⟩ := p3
    obtain ⟨U'', R''⟩ := R'.freeze i
    exact ⟨q1, U'', R''⟩
  | some d => exact p3
noncomputable def fSort1 (ds : List D) : Option (List D) := match ds with | [.list ds] => fSort ds | _ => none
theorem tg_nil {C : Cx} : Tgs C (([] : List Str).map fun n => bindName C.env n) [] := .nil
theorem tg_cons {C : Cx} {x : Str} {xs : List Str} {i : Nat} {is : List Nat} (hx : C.names[i]? = some x) (hi : i < C.ro) (h : Tgs C (xs.map fun n => bindName C.env n) is) : Tgs C ((x :: xs).map fun n => bindName C.env n) (i :: is) :=
  .cons ⟨hi, x, hx, fun v A s Q q => wpAny_bindName q⟩ h
theorem len1 {fd : FuncData} {pn : List Str} (h : ∀ a, bindArgs fd ⟨[a], []⟩ = pure (pn.zip [a])) : ∀ vs : List Value, vs.length = 1 → bindArgs fd ⟨vs, []⟩ = pure (pn.zip vs)
  | [a], _ => h a
theorem len2 {fd : FuncData} {pn : List Str} (h : ∀ a b, bindArgs fd ⟨[a, b], []⟩ = pure (pn.zip [a, b])) : ∀ vs : List Value, vs.length = 2 → bindArgs fd ⟨vs, []⟩ = pure (pn.zip vs)
  | [a, b], _ => h a b
theorem len3 {fd : FuncData} {pn : List Str} (h : ∀ a b c, bindArgs fd ⟨[a, b, c], []⟩ = pure (pn.zip [a, b, c])) : ∀ vs : List Value, vs.length = 3 → bindArgs fd ⟨vs, []⟩ = pure (pn.zip vs)
  | [a, b, c], _ => h a b c
theorem len4 {fd : FuncData} {pn : List Str} (h : ∀ a b c d, bindArgs fd ⟨[a, b, c, d], []⟩ = pure (pn.zip [a, b, c, d])) : ∀ vs : List Value, vs.length = 4 → bindArgs fd ⟨vs, []⟩ = pure (pn.zip vs)
  | [a, b, c, d], _ => h a b c d
end Pf

namespace Pf
open PySem PySem.Calls PyProof.Rows PySem.W
noncomputable def m_extended : Fs := (sSeq (sTup true (rCons (rV (eTup (lCons (eVar 0) (lCons (eC (.int 1)) (lCons (eC (.int 0)) lNil))))) (rCons (rV (eTup (lCons (eVar 1) (lCons (eC (.int 0)) (lCons (eC (.int 1)) lNil))))) rNil)) [2, 3]) (sSeq (sWhile 5000 (tOf (bind2 dNe (bind2 dIdx (eVarB 3) (eC (.int 0))) (eC (.int 0)))) (sSeq (sAsg (bind2 dDiv (bind2 dIdx (eVarB 2) (eC (.int 0))) (bind2 dIdx (eVarB 3) (eC (.int 0)))) (gName 4)) (sSeq (sAsg (eTup (lCons (bind2 dSub (bind2 dIdx (eVarB 2) (eC (.int 0))) (bind2 dMul (eVar 4) (bind2 dIdx (eVarB 3) (eC (.int 0))))) (lCons (bind2 dSub (bind2 dIdx (eVarB 2) (eC (.int 1))) (bind2 dMul (eVar 4) (bind2 dIdx (eVarB 3) (eC (.int 1))))) (lCons (bind2 dSub (bind2 dIdx (eVarB 2) (eC (.int 2))) (bind2 dMul (eVar 4) (bind2 dIdx (eVarB 3) (eC (.int 2))))) lNil)))) (gName 5)) (sSeq (sTup true (rCons (rV (eVar 3)) (rCons (rV (eVar 5)) rNil)) [2, 3]) sNil)))) (sSeq (sRet (eIf (tOf (bind2 dGe (bind2 dIdx (eVarB 2) (eC (.int 0))) (eC (.int 0)))) (eVar 2) (eTup (lCons (bind2 dSub (eC (.int 0)) (bind2 dIdx (eVarB 2) (eC (.int 0)))) (lCons (bind2 dSub (eC (.int 0)) (bind2 dIdx (eVarB 2) (eC (.int 1)))) (lCons (bind2 dSub (eC (.int 0)) (bind2 dIdx (eVarB 2) (eC (.int 2)))) lNil)))))) sNil)))
noncomputable def F_extended : List D → Option D := fBody m_extended ["a", "b"] ["a", "b", "one", "other", "times", "rest"]
theorem sf_extended {G : Gx} (O : G.Ok) (hD : ∀ d ∈ theDefs, d ∈ G.defs) : SF G 1 "extended" F_extended := by
  refine SF_def O (hD _ (dr_in (i := 0) (by kernel_rfl))) (pn := ["a", "b"]) (names := ["a", "b", "one", "other", "times", "rest"]) (m := m_extended) (by kernel_rfl) rfl (fun pm code doc vs h => ?_) (fun A pm code doc L a O0 => ?_)
  · exact len2 (fun _ _ => rfl) vs h
  · exact (SS_cons (SS_tupS O0 (SRL_cons (SE.r (SE_tuple (SL_cons (SE_var O0 (i := 0) rfl) (SL_cons SE_int (SL_cons SE_int SL_nil))))) (SRL_cons (SE.r (SE_tuple (SL_cons (SE_var O0 (i := 1) rfl) (SL_cons SE_int (SL_cons SE_int SL_nil))))) SRL_nil)) (xs := ["one", "other"]) (tg_cons (i := 2) rfl (Nat.le_of_ble_eq_true rfl) (tg_cons (i := 3) rfl (Nat.le_of_ble_eq_true rfl) tg_nil)) (by decide) (by kernel_rfl) (by kernel_rfl)) (SS_cons (SS_while 5000 (ST_cmp O0 op_ne (SE_idx (SB_var O0 (i := 3) rfl) SE_int) SE_int) (SS_cons (SS_asg O0 (SE_bin O0 op_div (SE_idx (SB_var O0 (i := 2) rfl) SE_int) (SE_idx (SB_var O0 (i := 3) rfl) SE_int)) (i := 4) rfl (Nat.le_of_ble_eq_true rfl) (by kernel_rfl)) (SS_cons (SS_asg O0 (SE_tuple (SL_cons (SE_bin O0 op_sub (SE_idx (SB_var O0 (i := 2) rfl) SE_int) (SE_bin O0 op_mul (SE_var O0 (i := 4) rfl) (SE_idx (SB_var O0 (i := 3) rfl) SE_int))) (SL_cons (SE_bin O0 op_sub (SE_idx (SB_var O0 (i := 2) rfl) SE_int) (SE_bin O0 op_mul (SE_var O0 (i := 4) rfl) (SE_idx (SB_var O0 (i := 3) rfl) SE_int))) (SL_cons (SE_bin O0 op_sub (SE_idx (SB_var O0 (i := 2) rfl) SE_int) (SE_bin O0 op_mul (SE_var O0 (i := 4) rfl) (SE_idx (SB_var O0 (i := 3) rfl) SE_int))) SL_nil)))) (i := 5) rfl (Nat.le_of_ble_eq_true rfl) (by kernel_rfl)) (SS_cons (SS_tupS O0 (SRL_cons (SE.r (SE_var O0 (i := 3) rfl)) (SRL_cons (SE.r (SE_var O0 (i := 5) rfl)) SRL_nil)) (xs := ["one", "other"]) (tg_cons (i := 2) rfl (Nat.le_of_ble_eq_true rfl) (tg_cons (i := 3) rfl (Nat.le_of_ble_eq_true rfl) tg_nil)) (by decide) (by kernel_rfl) (by kernel_rfl)) SS_nil)))) (SS_cons (SS_ret (SE_if (ST_cmp O0 op_ge (SE_idx (SB_var O0 (i := 2) rfl) SE_int) SE_int) (SE_var O0 (i := 2) rfl) (SE_tuple (SL_cons (SE_bin O0 op_sub SE_int (SE_idx (SB_var O0 (i := 2) rfl) SE_int)) (SL_cons (SE_bin O0 op_sub SE_int (SE_idx (SB_var O0 (i := 2) rfl) SE_int)) (SL_cons (SE_bin O0 op_sub SE_int (SE_idx (SB_var O0 (i := 2) rfl) SE_int)) SL_nil)))))) SS_nil)))
noncomputable def m_inverse_mod : Fs := (sSeq (sAsg (bindL F_extended (lCons (bind2 dMod (eVar 0) (eVar 1)) (lCons (eVar 1) lNil))) (gTup [2, 3, 4])) (sSeq (sRet (eIf (tOf (bind2 dEq (eVar 2) (eC (.int 1)))) (bind2 dMod (eVar 3) (eVar 1)) (eC .none))) sNil))
noncomputable def F_inverse_mod : List D → Option D := fBody m_inverse_mod ["a", "m"] ["a", "m", "g", "s", "t"]
theorem sf_inverse_mod {G : Gx} (O : G.Ok) (hD : ∀ d ∈ theDefs, d ∈ G.defs) (s_extended : SF G 1 "extended" F_extended) : SF G 2 "inverse_mod" F_inverse_mod := by
  refine SF_def O (hD _ (dr_in (i := 1) (by kernel_rfl))) (pn := ["a", "m"]) (names := ["a", "m", "g", "s", "t"]) (m := m_inverse_mod) (by kernel_rfl) rfl (fun pm code doc vs h => ?_) (fun A pm code doc L a O0 => ?_)
  · exact len2 (fun _ _ => rfl) vs h
  · exact (SS_cons (SS_asgT O0 (SE_call O0 s_extended (Nat.le_of_ble_eq_true rfl) (by kernel_rfl) (SL_cons (SE_bin O0 op_mod (SE_var O0 (i := 0) rfl) (SE_var O0 (i := 1) rfl)) (SL_cons (SE_var O0 (i := 1) rfl) SL_nil)) (hd := (by kernel_rfl))) (Elts_cons (i := 2) rfl (Nat.le_of_ble_eq_true rfl) (Elts_cons (i := 3) rfl (Nat.le_of_ble_eq_true rfl) (Elts_cons (i := 4) rfl (Nat.le_of_ble_eq_true rfl) Elts_nil))) (by kernel_rfl) (by kernel_rfl)) (SS_cons (SS_ret (SE_if (ST_cmp O0 op_eq (SE_var O0 (i := 2) rfl) SE_int) (SE_bin O0 op_mod (SE_var O0 (i := 3) rfl) (SE_var O0 (i := 1) rfl)) SE_none)) SS_nil))
noncomputable def m_least_divisor : Fs := (sSeq (sAsg (eVar 1) (gName 2)) (sSeq (sWhile 5000 (tOf (bind2 dLe (bind2 dMul (eVar 2) (eVar 2)) (eVar 0))) (sSeq (sIf (tOf (bind2 dEq (bind2 dMod (eVar 0) (eVar 2)) (eC (.int 0)))) (sSeq (sRet (eVar 2)) sNil) sNil) (sSeq (sAug 2 (eIf (tOf (bind2 dEq (eVar 2) (eC (.int 2)))) (eC (.int 1)) (eC (.int 2)))) sNil))) (sSeq (sRet (eVar 0)) sNil)))
noncomputable def F_least_divisor : List D → Option D := fBody m_least_divisor ["n", "begin"] ["n", "begin", "found"]
theorem sf_least_divisor {G : Gx} (O : G.Ok) (hD : ∀ d ∈ theDefs, d ∈ G.defs) : SF G 1 "least_divisor" F_least_divisor := by
  refine SF_def O (hD _ (dr_in (i := 2) (by kernel_rfl))) (pn := ["n", "begin"]) (names := ["n", "begin", "found"]) (m := m_least_divisor) (by kernel_rfl) rfl (fun pm code doc vs h => ?_) (fun A pm code doc L a O0 => ?_)
  · exact len2 (fun _ _ => rfl) vs h
  · exact (SS_cons (SS_asg O0 (SE_var O0 (i := 1) rfl) (i := 2) rfl (Nat.le_of_ble_eq_true rfl) (by kernel_rfl)) (SS_cons (SS_while 5000 (ST_cmp O0 op_le (SE_bin O0 op_mul (SE_var O0 (i := 2) rfl) (SE_var O0 (i := 2) rfl)) (SE_var O0 (i := 0) rfl)) (SS_cons (SS_if (ST_cmp O0 op_eq (SE_bin O0 op_mod (SE_var O0 (i := 0) rfl) (SE_var O0 (i := 2) rfl)) SE_int) (SS_cons (SS_ret (SE_var O0 (i := 2) rfl)) SS_nil) SS_nil) (SS_cons (SS_aug O0 (i := 2) rfl (Nat.le_of_ble_eq_true rfl) (SE_if (ST_cmp O0 op_eq (SE_var O0 (i := 2) rfl) SE_int) SE_int SE_int)) SS_nil))) (SS_cons (SS_ret (SE_var O0 (i := 0) rfl)) SS_nil)))
noncomputable def m_prime_factors : Fs := (sSeq (sTup true (rCons (rO (oLst lNil)) (rCons (rV (eC (.int 2))) rNil)) [1, 2]) (sSeq (sWhile 5000 (tOf (bind2 dGt (eVar 0) (eC (.int 1)))) (sSeq (sTup true (rCons (rV (bindL F_least_divisor (lCons (eVar 0) (lCons (eVar 2) lNil)))) (rCons (rV (eC (.int 0))) rNil)) [2, 3]) (sSeq (sWhile 5000 (tOf (bind2 dEq (bind2 dMod (eVar 0) (eVar 2)) (eC (.int 0)))) (sSeq (sTup true (rCons (rV (bind2 dDiv (eVar 0) (eVar 2))) (rCons (rV (bind2 dAdd (eVar 3) (eC (.int 1)))) rNil)) [0, 3]) sNil)) (sSeq (sApp 1 (eTup (lCons (eVar 2) (lCons (eVar 3) lNil)))) (sSeq (sAsg (eIf (tOf (bind2 dEq (eVar 2) (eC (.int 2)))) (eC (.int 3)) (bind2 dAdd (eVar 2) (eC (.int 2)))) (gName 2)) sNil))))) (sSeq (sFrz 1 (sRet (eVar 1))) sNil)))
noncomputable def F_prime_factors : List D → Option D := fBody m_prime_factors ["n"] ["n", "found", "prime", "many"]
theorem sf_prime_factors {G : Gx} (O : G.Ok) (hD : ∀ d ∈ theDefs, d ∈ G.defs) (s_least_divisor : SF G 1 "least_divisor" F_least_divisor) : SF G 2 "prime_factors" F_prime_factors := by
  refine SF_def O (hD _ (dr_in (i := 3) (by kernel_rfl))) (pn := ["n"]) (names := ["n", "found", "prime", "many"]) (m := m_prime_factors) (by kernel_rfl) rfl (fun pm code doc vs h => ?_) (fun A pm code doc L a O0 => ?_)
  · exact len1 (fun _ => rfl) vs h
  · exact (SS_cons (SS_tupS O0 (SRL_cons (SO.r (SO_list SL_nil)) (SRL_cons (SE.r SE_int) SRL_nil)) (xs := ["found", "prime"]) (tg_cons (i := 1) rfl (Nat.le_of_ble_eq_true rfl) (tg_cons (i := 2) rfl (Nat.le_of_ble_eq_true rfl) tg_nil)) (by decide) (by kernel_rfl) (by kernel_rfl)) (SS_cons (SS_while 5000 (ST_cmp O0 op_gt (SE_var O0 (i := 0) rfl) SE_int) (SS_cons (SS_tupS O0 (SRL_cons (SE.r (SE_call O0 s_least_divisor (Nat.le_of_ble_eq_true rfl) (by kernel_rfl) (SL_cons (SE_var O0 (i := 0) rfl) (SL_cons (SE_var O0 (i := 2) rfl) SL_nil)) (hd := (by kernel_rfl)))) (SRL_cons (SE.r SE_int) SRL_nil)) (xs := ["prime", "many"]) (tg_cons (i := 2) rfl (Nat.le_of_ble_eq_true rfl) (tg_cons (i := 3) rfl (Nat.le_of_ble_eq_true rfl) tg_nil)) (by decide) (by kernel_rfl) (by kernel_rfl)) (SS_cons (SS_while 5000 (ST_cmp O0 op_eq (SE_bin O0 op_mod (SE_var O0 (i := 0) rfl) (SE_var O0 (i := 2) rfl)) SE_int) (SS_cons (SS_tupS O0 (SRL_cons (SE.r (SE_bin O0 op_div (SE_var O0 (i := 0) rfl) (SE_var O0 (i := 2) rfl))) (SRL_cons (SE.r (SE_bin O0 op_add (SE_var O0 (i := 3) rfl) SE_int)) SRL_nil)) (xs := ["n", "many"]) (tg_cons (i := 0) rfl (Nat.le_of_ble_eq_true rfl) (tg_cons (i := 3) rfl (Nat.le_of_ble_eq_true rfl) tg_nil)) (by decide) (by kernel_rfl) (by kernel_rfl)) SS_nil)) (SS_cons (SS_append O0 (i := 1) rfl (SE_tuple (SL_cons (SE_var O0 (i := 2) rfl) (SL_cons (SE_var O0 (i := 3) rfl) SL_nil))) (by kernel_rfl)) (SS_cons (SS_asg O0 (SE_if (ST_cmp O0 op_eq (SE_var O0 (i := 2) rfl) SE_int) SE_int (SE_bin O0 op_add (SE_var O0 (i := 2) rfl) SE_int)) (i := 2) rfl (Nat.le_of_ble_eq_true rfl) (by kernel_rfl)) SS_nil))))) (SS_cons (SS_frz' 1 (SS_ret (SE_var O0 (i := 1) rfl))) SS_nil)))
noncomputable def m_mtrim : Fs := (sSeq (sAsg (bindL fLen (lCons (eVarB 0) lNil)) (gName 1)) (sSeq (sWhile 5000 (tAnd (tOf (bind2 dGt (eVar 1) (eC (.int 0)))) (tOf (bind2 dEq (bind2 dIdx (eVarB 0) (bind2 dSub (eVar 1) (eC (.int 1)))) (eC (.int 0))))) (sSeq (sAsg (bind2 dSub (eVar 1) (eC (.int 1))) (gName 1)) sNil)) (sSeq (sRet (eO (bindLO fList (lCons (eO (oSl (eVarB 0) none (some (eVar 1)))) lNil)))) sNil)))
noncomputable def F_mtrim : List D → Option D := fBody m_mtrim ["a"] ["a", "many"]
theorem sf_mtrim {G : Gx} (O : G.Ok) (hD : ∀ d ∈ theDefs, d ∈ G.defs) : SF G 1 "mtrim" F_mtrim := by
  refine SF_def O (hD _ (dr_in (i := 4) (by kernel_rfl))) (pn := ["a"]) (names := ["a", "many"]) (m := m_mtrim) (by kernel_rfl) rfl (fun pm code doc vs h => ?_) (fun A pm code doc L a O0 => ?_)
  · exact len1 (fun _ => rfl) vs h
  · exact (SS_cons (SS_asg O0 (SE_blt O0 bl_len PyProof.Rows.Boot.«len» (.inl ⟨_, rfl⟩) (by decide) (by kernel_rfl) (SLB_cons (SB_var O0 (i := 0) rfl) SLB_nil)) (i := 1) rfl (Nat.le_of_ble_eq_true rfl) (by kernel_rfl)) (SS_cons (SS_while 5000 (ST_and2 (ST_cmp O0 op_gt (SE_var O0 (i := 1) rfl) SE_int) (ST_cmp O0 op_eq (SE_idx (SB_var O0 (i := 0) rfl) (SE_bin O0 op_sub (SE_var O0 (i := 1) rfl) SE_int)) SE_int)) (SS_cons (SS_asg O0 (SE_bin O0 op_sub (SE_var O0 (i := 1) rfl) SE_int) (i := 1) rfl (Nat.le_of_ble_eq_true rfl) (by kernel_rfl)) SS_nil)) (SS_cons (SS_ret (SO.eo (SO_blt O0 bl_list PyProof.Rows.Boot.«list» (.inr ⟨_, rfl⟩) (by decide) (by kernel_rfl) (SLB_cons (SE.b (SO.eo (SO_upto (SB_var O0 (i := 0) rfl) (SE_var O0 (i := 1) rfl)))) SLB_nil)))) SS_nil)))
noncomputable def m_mdegree : Fs := (sSeq (sRet (bind2 dSub (bindL fLen (lCons (eVarB 0) lNil)) (eC (.int 1)))) sNil)
noncomputable def F_mdegree : List D → Option D := fBody m_mdegree ["a"] ["a"]
theorem sf_mdegree {G : Gx} (O : G.Ok) (hD : ∀ d ∈ theDefs, d ∈ G.defs) : SF G 1 "mdegree" F_mdegree := by
  refine SF_def O (hD _ (dr_in (i := 5) (by kernel_rfl))) (pn := ["a"]) (names := ["a"]) (m := m_mdegree) (by kernel_rfl) rfl (fun pm code doc vs h => ?_) (fun A pm code doc L a O0 => ?_)
  · exact len1 (fun _ => rfl) vs h
  · exact (SS_cons (SS_ret (SE_bin O0 op_sub (SE_blt O0 bl_len PyProof.Rows.Boot.«len» (.inl ⟨_, rfl⟩) (by decide) (by kernel_rfl) (SLB_cons (SB_var O0 (i := 0) rfl) SLB_nil)) SE_int)) SS_nil)
noncomputable def m_mlead : Fs := (sSeq (sRet (eIf (tOf (bind2 dGt (bindL fLen (lCons (eVarB 0) lNil)) (eC (.int 0)))) (bind2 dIdx (eVarB 0) (bind1 dNeg (eC (.int 1)))) (eC (.int 0)))) sNil)
noncomputable def F_mlead : List D → Option D := fBody m_mlead ["a"] ["a"]
theorem sf_mlead {G : Gx} (O : G.Ok) (hD : ∀ d ∈ theDefs, d ∈ G.defs) : SF G 1 "mlead" F_mlead := by
  refine SF_def O (hD _ (dr_in (i := 6) (by kernel_rfl))) (pn := ["a"]) (names := ["a"]) (m := m_mlead) (by kernel_rfl) rfl (fun pm code doc vs h => ?_) (fun A pm code doc L a O0 => ?_)
  · exact len1 (fun _ => rfl) vs h
  · exact (SS_cons (SS_ret (SE_if (ST_cmp O0 op_gt (SE_blt O0 bl_len PyProof.Rows.Boot.«len» (.inl ⟨_, rfl⟩) (by decide) (by kernel_rfl) (SLB_cons (SB_var O0 (i := 0) rfl) SLB_nil)) SE_int) (SE_idx (SB_var O0 (i := 0) rfl) (SE_neg SE_int)) SE_int)) SS_nil)
noncomputable def m_madd : Fs := (sSeq (sAsgO (oLst lNil) 3) (sSeq (sFor (bindLO fRange (lCons (bindL fMax (lCons (bindL fLen (lCons (eVarB 0) lNil)) (lCons (bindL fLen (lCons (eVarB 1) lNil)) lNil))) lNil)) (gName 4) (sSeq (sApp 3 (bind2 dMod (bind2 dAdd (eIf (tOf (bind2 dLt (eVar 4) (bindL fLen (lCons (eVarB 0) lNil)))) (bind2 dIdx (eVarB 0) (eVar 4)) (eC (.int 0))) (eIf (tOf (bind2 dLt (eVar 4) (bindL fLen (lCons (eVarB 1) lNil)))) (bind2 dIdx (eVarB 1) (eVar 4)) (eC (.int 0)))) (eVar 2))) sNil)) (sSeq (sFrz 3 (sRet (bindL F_mtrim (lCons (eVar 3) lNil)))) sNil)))
noncomputable def F_madd : List D → Option D := fBody m_madd ["a", "b", "p"] ["a", "b", "p", "found", "at"]
theorem sf_madd {G : Gx} (O : G.Ok) (hD : ∀ d ∈ theDefs, d ∈ G.defs) (s_mtrim : SF G 1 "mtrim" F_mtrim) : SF G 2 "madd" F_madd := by
  refine SF_def O (hD _ (dr_in (i := 7) (by kernel_rfl))) (pn := ["a", "b", "p"]) (names := ["a", "b", "p", "found", "at"]) (m := m_madd) (by kernel_rfl) rfl (fun pm code doc vs h => ?_) (fun A pm code doc L a O0 => ?_)
  · exact len3 (fun _ _ _ => rfl) vs h
  · exact (SS_cons (SS_asgO O0 (SO_list SL_nil) (i := 3) rfl (Nat.le_of_ble_eq_true rfl) (by kernel_rfl)) (SS_cons (SS_for O0 (SI_blt O0 bl_range PyProof.Rows.Boot.«range» (.inr ⟨_, rfl⟩) (by decide) (by kernel_rfl) (SL_cons (SE_blt O0 bl_max PyProof.Rows.Boot.«max» (.inl ⟨_, rfl⟩) (by decide) (by kernel_rfl) (SLB_cons (SE.b (SE_blt O0 bl_len PyProof.Rows.Boot.«len» (.inl ⟨_, rfl⟩) (by decide) (by kernel_rfl) (SLB_cons (SB_var O0 (i := 0) rfl) SLB_nil))) (SLB_cons (SE.b (SE_blt O0 bl_len PyProof.Rows.Boot.«len» (.inl ⟨_, rfl⟩) (by decide) (by kernel_rfl) (SLB_cons (SB_var O0 (i := 1) rfl) SLB_nil))) SLB_nil))) SL_nil)) (TG_name O0 (i := 4) rfl (Nat.le_of_ble_eq_true rfl)) rfl (SS_cons (SS_append O0 (i := 3) rfl (SE_bin O0 op_mod (SE_bin O0 op_add (SE_if (ST_cmp O0 op_lt (SE_var O0 (i := 4) rfl) (SE_blt O0 bl_len PyProof.Rows.Boot.«len» (.inl ⟨_, rfl⟩) (by decide) (by kernel_rfl) (SLB_cons (SB_var O0 (i := 0) rfl) SLB_nil))) (SE_idx (SB_var O0 (i := 0) rfl) (SE_var O0 (i := 4) rfl)) SE_int) (SE_if (ST_cmp O0 op_lt (SE_var O0 (i := 4) rfl) (SE_blt O0 bl_len PyProof.Rows.Boot.«len» (.inl ⟨_, rfl⟩) (by decide) (by kernel_rfl) (SLB_cons (SB_var O0 (i := 1) rfl) SLB_nil))) (SE_idx (SB_var O0 (i := 1) rfl) (SE_var O0 (i := 4) rfl)) SE_int)) (SE_var O0 (i := 2) rfl)) (by kernel_rfl)) SS_nil)) (SS_cons (SS_frz' 3 (SS_ret (SE_call O0 s_mtrim (Nat.le_of_ble_eq_true rfl) (by kernel_rfl) (SL_cons (SE_var O0 (i := 3) rfl) SL_nil) (hd := (by kernel_rfl))))) SS_nil)))
noncomputable def m_mneg : Fs := (sSeq (sRet (eO (oComp (iList (eVar 0)) 1 [1] (gName 0) (fun _ => some true) (kE (bind2 dMod (bind1 dNeg (eVar 0)) (eVar 1)))))) sNil)
noncomputable def F_mneg : List D → Option D := fBody m_mneg ["a", "p"] ["a", "p"]
theorem sf_mneg {G : Gx} (O : G.Ok) (hD : ∀ d ∈ theDefs, d ∈ G.defs) : SF G 1 "mneg" F_mneg := by
  refine SF_def O (hD _ (dr_in (i := 8) (by kernel_rfl))) (pn := ["a", "p"]) (names := ["a", "p"]) (m := m_mneg) (by kernel_rfl) rfl (fun pm code doc vs h => ?_) (fun A pm code doc L a O0 => ?_)
  · exact len2 (fun _ _ => rfl) vs h
  · exact (SS_cons (SS_ret (SO.eo (SO_comp O0 (es := _) (cn := ["a", "p"]) (names := ["number", "p"]) (ro := 1) (fi := [1]) rfl rfl (by kernel_rfl) (SI_list O0 (SE_var O0 (i := 0) rfl)) (fun _ O1 => (LB_last rfl (TG_name O1 (i := 0) rfl (Nat.le_of_ble_eq_true rfl)) ST_t0 (SE_bin O1 op_mod (SE_neg (SE_var O1 (i := 0) rfl)) (SE_var O1 (i := 1) rfl)) rfl rfl))))) SS_nil)
noncomputable def m_msub : Fs := (sSeq (sRet (bindL F_madd (lCons (eVar 0) (lCons (bindL F_mneg (lCons (eVar 1) (lCons (eVar 2) lNil))) (lCons (eVar 2) lNil))))) sNil)
noncomputable def F_msub : List D → Option D := fBody m_msub ["a", "b", "p"] ["a", "b", "p"]
theorem sf_msub {G : Gx} (O : G.Ok) (hD : ∀ d ∈ theDefs, d ∈ G.defs) (s_mneg : SF G 1 "mneg" F_mneg) (s_madd : SF G 2 "madd" F_madd) : SF G 3 "msub" F_msub := by
  refine SF_def O (hD _ (dr_in (i := 9) (by kernel_rfl))) (pn := ["a", "b", "p"]) (names := ["a", "b", "p"]) (m := m_msub) (by kernel_rfl) rfl (fun pm code doc vs h => ?_) (fun A pm code doc L a O0 => ?_)
  · exact len3 (fun _ _ _ => rfl) vs h
  · exact (SS_cons (SS_ret (SE_call O0 s_madd (Nat.le_of_ble_eq_true rfl) (by kernel_rfl) (SL_cons (SE_var O0 (i := 0) rfl) (SL_cons (SE_call O0 s_mneg (Nat.le_of_ble_eq_true rfl) (by kernel_rfl) (SL_cons (SE_var O0 (i := 1) rfl) (SL_cons (SE_var O0 (i := 2) rfl) SL_nil)) (hd := (by kernel_rfl))) (SL_cons (SE_var O0 (i := 2) rfl) SL_nil))) (hd := (by kernel_rfl)))) SS_nil)
noncomputable def m_mscale : Fs := (sSeq (sRet (bindL F_mtrim (lCons (eO (oComp (iList (eVar 0)) 1 [1, 2] (gName 0) (fun _ => some true) (kE (bind2 dMod (bind2 dMul (eVar 0) (eVar 1)) (eVar 2))))) lNil))) sNil)
noncomputable def F_mscale : List D → Option D := fBody m_mscale ["a", "number", "p"] ["a", "number", "p"]
theorem sf_mscale {G : Gx} (O : G.Ok) (hD : ∀ d ∈ theDefs, d ∈ G.defs) (s_mtrim : SF G 1 "mtrim" F_mtrim) : SF G 2 "mscale" F_mscale := by
  refine SF_def O (hD _ (dr_in (i := 10) (by kernel_rfl))) (pn := ["a", "number", "p"]) (names := ["a", "number", "p"]) (m := m_mscale) (by kernel_rfl) rfl (fun pm code doc vs h => ?_) (fun A pm code doc L a O0 => ?_)
  · exact len3 (fun _ _ _ => rfl) vs h
  · exact (SS_cons (SS_ret (SE_call O0 s_mtrim (Nat.le_of_ble_eq_true rfl) (by kernel_rfl) (SL_cons (SO.eo (SO_comp O0 (es := _) (cn := ["a", "number", "p"]) (names := ["one", "number", "p"]) (ro := 1) (fi := [1, 2]) rfl rfl (by kernel_rfl) (SI_list O0 (SE_var O0 (i := 0) rfl)) (fun _ O1 => (LB_last rfl (TG_name O1 (i := 0) rfl (Nat.le_of_ble_eq_true rfl)) ST_t0 (SE_bin O1 op_mod (SE_bin O1 op_mul (SE_var O1 (i := 0) rfl) (SE_var O1 (i := 1) rfl)) (SE_var O1 (i := 2) rfl)) rfl rfl)))) SL_nil) (hd := (by kernel_rfl)))) SS_nil)
noncomputable def m_mmul : Fs := (sSeq (sIf (tOr (tOf (bind2 dEq (bindL fLen (lCons (eVarB 0) lNil)) (eC (.int 0)))) (tOf (bind2 dEq (bindL fLen (lCons (eVarB 1) lNil)) (eC (.int 0))))) (sSeq (sRet (eO (oLst lNil))) sNil) sNil) (sSeq (sAsgO (oRep (eO (oLst (lCons (eC (.int 0)) lNil))) (bind2 dSub (bind2 dAdd (bindL fLen (lCons (eVarB 0) lNil)) (bindL fLen (lCons (eVarB 1) lNil))) (eC (.int 1)))) 3) (sSeq (sFor (bindLO fEnum (lCons (eVar 0) lNil)) (gTup [4, 5]) (sSeq (sIf (tOf (bind2 dNe (eVar 5) (eC (.int 0)))) (sSeq (sFor (bindLO fEnum (lCons (eVar 1) lNil)) (gTup [6, 7]) (sSeq (sSet 3 (bind2 dAdd (eVar 4) (eVar 6)) (bind2 dMod (bind2 dAdd (bind2 dIdx (eVarB 3) (bind2 dAdd (eVar 4) (eVar 6))) (bind2 dMul (eVar 5) (eVar 7))) (eVar 2))) sNil)) sNil) sNil) sNil)) (sSeq (sFrz 3 (sRet (bindL F_mtrim (lCons (eVar 3) lNil)))) sNil))))
noncomputable def F_mmul : List D → Option D := fBody m_mmul ["a", "b", "p"] ["a", "b", "p", "found", "at", "one", "spot", "other"]
theorem sf_mmul {G : Gx} (O : G.Ok) (hD : ∀ d ∈ theDefs, d ∈ G.defs) (s_mtrim : SF G 1 "mtrim" F_mtrim) : SF G 2 "mmul" F_mmul := by
  refine SF_def O (hD _ (dr_in (i := 11) (by kernel_rfl))) (pn := ["a", "b", "p"]) (names := ["a", "b", "p", "found", "at", "one", "spot", "other"]) (m := m_mmul) (by kernel_rfl) rfl (fun pm code doc vs h => ?_) (fun A pm code doc L a O0 => ?_)
  · exact len3 (fun _ _ _ => rfl) vs h
  · exact (SS_cons (SS_if (ST_or2 (ST_cmp O0 op_eq (SE_blt O0 bl_len PyProof.Rows.Boot.«len» (.inl ⟨_, rfl⟩) (by decide) (by kernel_rfl) (SLB_cons (SB_var O0 (i := 0) rfl) SLB_nil)) SE_int) (ST_cmp O0 op_eq (SE_blt O0 bl_len PyProof.Rows.Boot.«len» (.inl ⟨_, rfl⟩) (by decide) (by kernel_rfl) (SLB_cons (SB_var O0 (i := 1) rfl) SLB_nil)) SE_int)) (SS_cons (SS_ret (SO.eo (SO_list SL_nil))) SS_nil) SS_nil) (SS_cons (SS_asgO O0 (SO_rep (SE.b (SO.eo (SO_list (SL_cons SE_int SL_nil)))) (SE_bin O0 op_sub (SE_bin O0 op_add (SE_blt O0 bl_len PyProof.Rows.Boot.«len» (.inl ⟨_, rfl⟩) (by decide) (by kernel_rfl) (SLB_cons (SB_var O0 (i := 0) rfl) SLB_nil)) (SE_blt O0 bl_len PyProof.Rows.Boot.«len» (.inl ⟨_, rfl⟩) (by decide) (by kernel_rfl) (SLB_cons (SB_var O0 (i := 1) rfl) SLB_nil))) SE_int)) (i := 3) rfl (Nat.le_of_ble_eq_true rfl) (by kernel_rfl)) (SS_cons (SS_for O0 (SI_blt O0 bl_enum PyProof.Rows.Boot.«enumerate» (.inr ⟨_, rfl⟩) (by decide) (by kernel_rfl) (SL_cons (SE_var O0 (i := 0) rfl) SL_nil)) (TG_tup O0 (Elts_cons (i := 4) rfl (Nat.le_of_ble_eq_true rfl) (Elts_cons (i := 5) rfl (Nat.le_of_ble_eq_true rfl) Elts_nil))) rfl (SS_cons (SS_if (ST_cmp O0 op_ne (SE_var O0 (i := 5) rfl) SE_int) (SS_cons (SS_for O0 (SI_blt O0 bl_enum PyProof.Rows.Boot.«enumerate» (.inr ⟨_, rfl⟩) (by decide) (by kernel_rfl) (SL_cons (SE_var O0 (i := 1) rfl) SL_nil)) (TG_tup O0 (Elts_cons (i := 6) rfl (Nat.le_of_ble_eq_true rfl) (Elts_cons (i := 7) rfl (Nat.le_of_ble_eq_true rfl) Elts_nil))) rfl (SS_cons (SS_set O0 (i := 3) rfl (SE_bin O0 op_add (SE_var O0 (i := 4) rfl) (SE_var O0 (i := 6) rfl)) (SE_bin O0 op_mod (SE_bin O0 op_add (SE_idx (SB_var O0 (i := 3) rfl) (SE_bin O0 op_add (SE_var O0 (i := 4) rfl) (SE_var O0 (i := 6) rfl))) (SE_bin O0 op_mul (SE_var O0 (i := 5) rfl) (SE_var O0 (i := 7) rfl))) (SE_var O0 (i := 2) rfl)) (by kernel_rfl)) SS_nil)) SS_nil) SS_nil) SS_nil)) (SS_cons (SS_frz' 3 (SS_ret (SE_call O0 s_mtrim (Nat.le_of_ble_eq_true rfl) (by kernel_rfl) (SL_cons (SE_var O0 (i := 3) rfl) SL_nil) (hd := (by kernel_rfl))))) SS_nil))))
noncomputable def m_mdivmod : Fs := (sSeq (sTup true (rCons (rO (bindLO fList (lCons (eVarB 0) lNil))) (rCons (rO (oRep (eO (oLst (lCons (eC (.int 0)) lNil))) (bindL fMax (lCons (eC (.int 0)) (lCons (bind2 dAdd (bind2 dSub (bindL fLen (lCons (eVarB 0) lNil)) (bindL fLen (lCons (eVarB 1) lNil))) (eC (.int 1))) lNil))))) rNil)) [3, 4]) (sSeq (sAsg (bindL F_inverse_mod (lCons (bind2 dIdx (eVarB 1) (bind1 dNeg (eC (.int 1)))) (lCons (eVar 2) lNil))) (gName 5)) (sSeq (sFor (bindLO fRange (lCons (bind2 dSub (bindL fLen (lCons (eVarB 0) lNil)) (bindL fLen (lCons (eVarB 1) lNil))) (lCons (bind1 dNeg (eC (.int 1))) (lCons (bind1 dNeg (eC (.int 1))) lNil)))) (gName 6) (sSeq (sAsg (bind2 dMod (bind2 dMul (bind2 dIdx (eVarB 3) (bind2 dSub (bind2 dAdd (eVar 6) (bindL fLen (lCons (eVarB 1) lNil))) (eC (.int 1)))) (eVar 5)) (eVar 2)) (gName 7)) (sSeq (sSet 4 (eVar 6) (eVar 7)) (sSeq (sIf (tOf (bind2 dNe (eVar 7) (eC (.int 0)))) (sSeq (sFor (bindLO fEnum (lCons (eVar 1) lNil)) (gTup [8, 9]) (sSeq (sSet 3 (bind2 dAdd (eVar 6) (eVar 8)) (bind2 dMod (bind2 dSub (bind2 dIdx (eVarB 3) (bind2 dAdd (eVar 6) (eVar 8))) (bind2 dMul (eVar 7) (eVar 9))) (eVar 2))) sNil)) sNil) sNil) sNil)))) (sSeq (sFrz 4 (sRet (eTup (lCons (bindL F_mtrim (lCons (eVar 4) lNil)) (lCons (bindL F_mtrim (lCons (eO (oSl (eVarB 3) none (some (bind2 dSub (bindL fLen (lCons (eVarB 1) lNil)) (eC (.int 1)))))) lNil)) lNil))))) sNil))))
noncomputable def F_mdivmod : List D → Option D := fBody m_mdivmod ["a", "b", "p"] ["a", "b", "p", "rest", "quotient", "turn", "at", "number", "spot", "other"]
theorem sf_mdivmod {G : Gx} (O : G.Ok) (hD : ∀ d ∈ theDefs, d ∈ G.defs) (s_mtrim : SF G 1 "mtrim" F_mtrim) (s_inverse_mod : SF G 2 "inverse_mod" F_inverse_mod) : SF G 3 "mdivmod" F_mdivmod := by
  refine SF_def O (hD _ (dr_in (i := 12) (by kernel_rfl))) (pn := ["a", "b", "p"]) (names := ["a", "b", "p", "rest", "quotient", "turn", "at", "number", "spot", "other"]) (m := m_mdivmod) (by kernel_rfl) rfl (fun pm code doc vs h => ?_) (fun A pm code doc L a O0 => ?_)
  · exact len3 (fun _ _ _ => rfl) vs h
  · exact (SS_cons (SS_tupS O0 (SRL_cons (SO.r (SO_blt O0 bl_list PyProof.Rows.Boot.«list» (.inr ⟨_, rfl⟩) (by decide) (by kernel_rfl) (SLB_cons (SB_var O0 (i := 0) rfl) SLB_nil))) (SRL_cons (SO.r (SO_rep (SE.b (SO.eo (SO_list (SL_cons SE_int SL_nil)))) (SE_blt O0 bl_max PyProof.Rows.Boot.«max» (.inl ⟨_, rfl⟩) (by decide) (by kernel_rfl) (SLB_cons (SE.b SE_int) (SLB_cons (SE.b (SE_bin O0 op_add (SE_bin O0 op_sub (SE_blt O0 bl_len PyProof.Rows.Boot.«len» (.inl ⟨_, rfl⟩) (by decide) (by kernel_rfl) (SLB_cons (SB_var O0 (i := 0) rfl) SLB_nil)) (SE_blt O0 bl_len PyProof.Rows.Boot.«len» (.inl ⟨_, rfl⟩) (by decide) (by kernel_rfl) (SLB_cons (SB_var O0 (i := 1) rfl) SLB_nil))) SE_int)) SLB_nil))))) SRL_nil)) (xs := ["rest", "quotient"]) (tg_cons (i := 3) rfl (Nat.le_of_ble_eq_true rfl) (tg_cons (i := 4) rfl (Nat.le_of_ble_eq_true rfl) tg_nil)) (by decide) (by kernel_rfl) (by kernel_rfl)) (SS_cons (SS_asg O0 (SE_call O0 s_inverse_mod (Nat.le_of_ble_eq_true rfl) (by kernel_rfl) (SL_cons (SE_idx (SB_var O0 (i := 1) rfl) (SE_neg SE_int)) (SL_cons (SE_var O0 (i := 2) rfl) SL_nil)) (hd := (by kernel_rfl))) (i := 5) rfl (Nat.le_of_ble_eq_true rfl) (by kernel_rfl)) (SS_cons (SS_for O0 (SI_blt O0 bl_range PyProof.Rows.Boot.«range» (.inr ⟨_, rfl⟩) (by decide) (by kernel_rfl) (SL_cons (SE_bin O0 op_sub (SE_blt O0 bl_len PyProof.Rows.Boot.«len» (.inl ⟨_, rfl⟩) (by decide) (by kernel_rfl) (SLB_cons (SB_var O0 (i := 0) rfl) SLB_nil)) (SE_blt O0 bl_len PyProof.Rows.Boot.«len» (.inl ⟨_, rfl⟩) (by decide) (by kernel_rfl) (SLB_cons (SB_var O0 (i := 1) rfl) SLB_nil))) (SL_cons (SE_neg SE_int) (SL_cons (SE_neg SE_int) SL_nil)))) (TG_name O0 (i := 6) rfl (Nat.le_of_ble_eq_true rfl)) rfl (SS_cons (SS_asg O0 (SE_bin O0 op_mod (SE_bin O0 op_mul (SE_idx (SB_var O0 (i := 3) rfl) (SE_bin O0 op_sub (SE_bin O0 op_add (SE_var O0 (i := 6) rfl) (SE_blt O0 bl_len PyProof.Rows.Boot.«len» (.inl ⟨_, rfl⟩) (by decide) (by kernel_rfl) (SLB_cons (SB_var O0 (i := 1) rfl) SLB_nil))) SE_int)) (SE_var O0 (i := 5) rfl)) (SE_var O0 (i := 2) rfl)) (i := 7) rfl (Nat.le_of_ble_eq_true rfl) (by kernel_rfl)) (SS_cons (SS_set O0 (i := 4) rfl (SE_var O0 (i := 6) rfl) (SE_var O0 (i := 7) rfl) (by kernel_rfl)) (SS_cons (SS_if (ST_cmp O0 op_ne (SE_var O0 (i := 7) rfl) SE_int) (SS_cons (SS_for O0 (SI_blt O0 bl_enum PyProof.Rows.Boot.«enumerate» (.inr ⟨_, rfl⟩) (by decide) (by kernel_rfl) (SL_cons (SE_var O0 (i := 1) rfl) SL_nil)) (TG_tup O0 (Elts_cons (i := 8) rfl (Nat.le_of_ble_eq_true rfl) (Elts_cons (i := 9) rfl (Nat.le_of_ble_eq_true rfl) Elts_nil))) rfl (SS_cons (SS_set O0 (i := 3) rfl (SE_bin O0 op_add (SE_var O0 (i := 6) rfl) (SE_var O0 (i := 8) rfl)) (SE_bin O0 op_mod (SE_bin O0 op_sub (SE_idx (SB_var O0 (i := 3) rfl) (SE_bin O0 op_add (SE_var O0 (i := 6) rfl) (SE_var O0 (i := 8) rfl))) (SE_bin O0 op_mul (SE_var O0 (i := 7) rfl) (SE_var O0 (i := 9) rfl))) (SE_var O0 (i := 2) rfl)) (by kernel_rfl)) SS_nil)) SS_nil) SS_nil) SS_nil)))) (SS_cons (SS_frz' 4 (SS_ret (SE_tuple (SL_cons (SE_call O0 s_mtrim (Nat.le_of_ble_eq_true rfl) (by kernel_rfl) (SL_cons (SE_var O0 (i := 4) rfl) SL_nil) (hd := (by kernel_rfl))) (SL_cons (SE_call O0 s_mtrim (Nat.le_of_ble_eq_true rfl) (by kernel_rfl) (SL_cons (SO.eo (SO_upto (SB_var O0 (i := 3) rfl) (SE_bin O0 op_sub (SE_blt O0 bl_len PyProof.Rows.Boot.«len» (.inl ⟨_, rfl⟩) (by decide) (by kernel_rfl) (SLB_cons (SB_var O0 (i := 1) rfl) SLB_nil)) SE_int))) SL_nil) (hd := (by kernel_rfl))) SL_nil))))) SS_nil))))
noncomputable def m_mrest : Fs := (sSeq (sRet (bind2 dIdx (bindL F_mdivmod (lCons (eVar 0) (lCons (eVar 1) (lCons (eVar 2) lNil)))) (eC (.int 1)))) sNil)
noncomputable def F_mrest : List D → Option D := fBody m_mrest ["a", "b", "p"] ["a", "b", "p"]
theorem sf_mrest {G : Gx} (O : G.Ok) (hD : ∀ d ∈ theDefs, d ∈ G.defs) (s_mdivmod : SF G 3 "mdivmod" F_mdivmod) : SF G 4 "mrest" F_mrest := by
  refine SF_def O (hD _ (dr_in (i := 13) (by kernel_rfl))) (pn := ["a", "b", "p"]) (names := ["a", "b", "p"]) (m := m_mrest) (by kernel_rfl) rfl (fun pm code doc vs h => ?_) (fun A pm code doc L a O0 => ?_)
  · exact len3 (fun _ _ _ => rfl) vs h
  · exact (SS_cons (SS_ret (SE_idx (SE.b (SE_call O0 s_mdivmod (Nat.le_of_ble_eq_true rfl) (by kernel_rfl) (SL_cons (SE_var O0 (i := 0) rfl) (SL_cons (SE_var O0 (i := 1) rfl) (SL_cons (SE_var O0 (i := 2) rfl) SL_nil))) (hd := (by kernel_rfl)))) SE_int)) SS_nil)
noncomputable def m_mquotient : Fs := (sSeq (sRet (bind2 dIdx (bindL F_mdivmod (lCons (eVar 0) (lCons (eVar 1) (lCons (eVar 2) lNil)))) (eC (.int 0)))) sNil)
noncomputable def F_mquotient : List D → Option D := fBody m_mquotient ["a", "b", "p"] ["a", "b", "p"]
theorem sf_mquotient {G : Gx} (O : G.Ok) (hD : ∀ d ∈ theDefs, d ∈ G.defs) (s_mdivmod : SF G 3 "mdivmod" F_mdivmod) : SF G 4 "mquotient" F_mquotient := by
  refine SF_def O (hD _ (dr_in (i := 14) (by kernel_rfl))) (pn := ["a", "b", "p"]) (names := ["a", "b", "p"]) (m := m_mquotient) (by kernel_rfl) rfl (fun pm code doc vs h => ?_) (fun A pm code doc L a O0 => ?_)
  · exact len3 (fun _ _ _ => rfl) vs h
  · exact (SS_cons (SS_ret (SE_idx (SE.b (SE_call O0 s_mdivmod (Nat.le_of_ble_eq_true rfl) (by kernel_rfl) (SL_cons (SE_var O0 (i := 0) rfl) (SL_cons (SE_var O0 (i := 1) rfl) (SL_cons (SE_var O0 (i := 2) rfl) SL_nil))) (hd := (by kernel_rfl)))) SE_int)) SS_nil)
noncomputable def m_mmonic : Fs := (sSeq (sRet (eIf (tOf (bind2 dGt (bindL fLen (lCons (eVarB 0) lNil)) (eC (.int 0)))) (bindL F_mscale (lCons (eVar 0) (lCons (bindL F_inverse_mod (lCons (bind2 dIdx (eVarB 0) (bind1 dNeg (eC (.int 1)))) (lCons (eVar 1) lNil))) (lCons (eVar 1) lNil)))) (eO (oLst lNil)))) sNil)
noncomputable def F_mmonic : List D → Option D := fBody m_mmonic ["a", "p"] ["a", "p"]
theorem sf_mmonic {G : Gx} (O : G.Ok) (hD : ∀ d ∈ theDefs, d ∈ G.defs) (s_inverse_mod : SF G 2 "inverse_mod" F_inverse_mod) (s_mscale : SF G 2 "mscale" F_mscale) : SF G 3 "mmonic" F_mmonic := by
  refine SF_def O (hD _ (dr_in (i := 15) (by kernel_rfl))) (pn := ["a", "p"]) (names := ["a", "p"]) (m := m_mmonic) (by kernel_rfl) rfl (fun pm code doc vs h => ?_) (fun A pm code doc L a O0 => ?_)
  · exact len2 (fun _ _ => rfl) vs h
  · exact (SS_cons (SS_ret (SE_if (ST_cmp O0 op_gt (SE_blt O0 bl_len PyProof.Rows.Boot.«len» (.inl ⟨_, rfl⟩) (by decide) (by kernel_rfl) (SLB_cons (SB_var O0 (i := 0) rfl) SLB_nil)) SE_int) (SE_call O0 s_mscale (Nat.le_of_ble_eq_true rfl) (by kernel_rfl) (SL_cons (SE_var O0 (i := 0) rfl) (SL_cons (SE_call O0 s_inverse_mod (Nat.le_of_ble_eq_true rfl) (by kernel_rfl) (SL_cons (SE_idx (SB_var O0 (i := 0) rfl) (SE_neg SE_int)) (SL_cons (SE_var O0 (i := 1) rfl) SL_nil)) (hd := (by kernel_rfl))) (SL_cons (SE_var O0 (i := 1) rfl) SL_nil))) (hd := (by kernel_rfl))) (SO.eo (SO_list SL_nil)))) SS_nil)
noncomputable def m_mderive : Fs := (sSeq (sRet (bindL F_mtrim (lCons (eO (oSl (eO (oComp (bindLO fEnum (lCons (eVar 0) lNil)) 2 [1] (gTup [0, 1]) (fun _ => some true) (kE (bind2 dMod (bind2 dMul (eVar 0) (eVar 1)) (eVar 2))))) (some (eC (.int 1))) none)) lNil))) sNil)
noncomputable def F_mderive : List D → Option D := fBody m_mderive ["a", "p"] ["a", "p"]
theorem sf_mderive {G : Gx} (O : G.Ok) (hD : ∀ d ∈ theDefs, d ∈ G.defs) (s_mtrim : SF G 1 "mtrim" F_mtrim) : SF G 2 "mderive" F_mderive := by
  refine SF_def O (hD _ (dr_in (i := 16) (by kernel_rfl))) (pn := ["a", "p"]) (names := ["a", "p"]) (m := m_mderive) (by kernel_rfl) rfl (fun pm code doc vs h => ?_) (fun A pm code doc L a O0 => ?_)
  · exact len2 (fun _ _ => rfl) vs h
  · exact (SS_cons (SS_ret (SE_call O0 s_mtrim (Nat.le_of_ble_eq_true rfl) (by kernel_rfl) (SL_cons (SO.eo (SO_from (SE.b (SO.eo (SO_comp O0 (es := _) (cn := ["a", "p"]) (names := ["at", "number", "p"]) (ro := 2) (fi := [1]) rfl rfl (by kernel_rfl) (SI_blt O0 bl_enum PyProof.Rows.Boot.«enumerate» (.inr ⟨_, rfl⟩) (by decide) (by kernel_rfl) (SL_cons (SE_var O0 (i := 0) rfl) SL_nil)) (fun _ O1 => (LB_last rfl (TG_tup O1 (Elts_cons (i := 0) rfl (Nat.le_of_ble_eq_true rfl) (Elts_cons (i := 1) rfl (Nat.le_of_ble_eq_true rfl) Elts_nil))) ST_t0 (SE_bin O1 op_mod (SE_bin O1 op_mul (SE_var O1 (i := 0) rfl) (SE_var O1 (i := 1) rfl)) (SE_var O1 (i := 2) rfl)) rfl rfl))))) SE_int)) SL_nil) (hd := (by kernel_rfl)))) SS_nil)
noncomputable def m_mpower_mod : Fs := (sSeq (sTup true (rCons (rV (bindL F_mrest (lCons (eO (oLst (lCons (eC (.int 1)) lNil))) (lCons (eVar 2) (lCons (eVar 3) lNil))))) (rCons (rV (bindL F_mrest (lCons (eVar 0) (lCons (eVar 2) (lCons (eVar 3) lNil))))) rNil)) [4, 5]) (sSeq (sWhile 5000 (tOf (bind2 dGt (eVar 1) (eC (.int 0)))) (sSeq (sIf (tOf (bind2 dEq (bind2 dMod (eVar 1) (eC (.int 2))) (eC (.int 1)))) (sSeq (sAsg (bindL F_mrest (lCons (bindL F_mmul (lCons (eVar 4) (lCons (eVar 5) (lCons (eVar 3) lNil)))) (lCons (eVar 2) (lCons (eVar 3) lNil)))) (gName 4)) sNil) sNil) (sSeq (sAsg (bind2 dDiv (eVar 1) (eC (.int 2))) (gName 1)) (sSeq (sIf (tOf (bind2 dGt (eVar 1) (eC (.int 0)))) (sSeq (sAsg (bindL F_mrest (lCons (bindL F_mmul (lCons (eVar 5) (lCons (eVar 5) (lCons (eVar 3) lNil)))) (lCons (eVar 2) (lCons (eVar 3) lNil)))) (gName 5)) sNil) sNil) sNil)))) (sSeq (sRet (eVar 4)) sNil)))
noncomputable def F_mpower_mod : List D → Option D := fBody m_mpower_mod ["a", "n", "f", "p"] ["a", "n", "f", "p", "found", "square"]
theorem sf_mpower_mod {G : Gx} (O : G.Ok) (hD : ∀ d ∈ theDefs, d ∈ G.defs) (s_mmul : SF G 2 "mmul" F_mmul) (s_mrest : SF G 4 "mrest" F_mrest) : SF G 5 "mpower_mod" F_mpower_mod := by
  refine SF_def O (hD _ (dr_in (i := 17) (by kernel_rfl))) (pn := ["a", "n", "f", "p"]) (names := ["a", "n", "f", "p", "found", "square"]) (m := m_mpower_mod) (by kernel_rfl) rfl (fun pm code doc vs h => ?_) (fun A pm code doc L a O0 => ?_)
  · exact len4 (fun _ _ _ _ => rfl) vs h
  · exact (SS_cons (SS_tupS O0 (SRL_cons (SE.r (SE_call O0 s_mrest (Nat.le_of_ble_eq_true rfl) (by kernel_rfl) (SL_cons (SO.eo (SO_list (SL_cons SE_int SL_nil))) (SL_cons (SE_var O0 (i := 2) rfl) (SL_cons (SE_var O0 (i := 3) rfl) SL_nil))) (hd := (by kernel_rfl)))) (SRL_cons (SE.r (SE_call O0 s_mrest (Nat.le_of_ble_eq_true rfl) (by kernel_rfl) (SL_cons (SE_var O0 (i := 0) rfl) (SL_cons (SE_var O0 (i := 2) rfl) (SL_cons (SE_var O0 (i := 3) rfl) SL_nil))) (hd := (by kernel_rfl)))) SRL_nil)) (xs := ["found", "square"]) (tg_cons (i := 4) rfl (Nat.le_of_ble_eq_true rfl) (tg_cons (i := 5) rfl (Nat.le_of_ble_eq_true rfl) tg_nil)) (by decide) (by kernel_rfl) (by kernel_rfl)) (SS_cons (SS_while 5000 (ST_cmp O0 op_gt (SE_var O0 (i := 1) rfl) SE_int) (SS_cons (SS_if (ST_cmp O0 op_eq (SE_bin O0 op_mod (SE_var O0 (i := 1) rfl) SE_int) SE_int) (SS_cons (SS_asg O0 (SE_call O0 s_mrest (Nat.le_of_ble_eq_true rfl) (by kernel_rfl) (SL_cons (SE_call O0 s_mmul (Nat.le_of_ble_eq_true rfl) (by kernel_rfl) (SL_cons (SE_var O0 (i := 4) rfl) (SL_cons (SE_var O0 (i := 5) rfl) (SL_cons (SE_var O0 (i := 3) rfl) SL_nil))) (hd := (by kernel_rfl))) (SL_cons (SE_var O0 (i := 2) rfl) (SL_cons (SE_var O0 (i := 3) rfl) SL_nil))) (hd := (by kernel_rfl))) (i := 4) rfl (Nat.le_of_ble_eq_true rfl) (by kernel_rfl)) SS_nil) SS_nil) (SS_cons (SS_asg O0 (SE_bin O0 op_div (SE_var O0 (i := 1) rfl) SE_int) (i := 1) rfl (Nat.le_of_ble_eq_true rfl) (by kernel_rfl)) (SS_cons (SS_if (ST_cmp O0 op_gt (SE_var O0 (i := 1) rfl) SE_int) (SS_cons (SS_asg O0 (SE_call O0 s_mrest (Nat.le_of_ble_eq_true rfl) (by kernel_rfl) (SL_cons (SE_call O0 s_mmul (Nat.le_of_ble_eq_true rfl) (by kernel_rfl) (SL_cons (SE_var O0 (i := 5) rfl) (SL_cons (SE_var O0 (i := 5) rfl) (SL_cons (SE_var O0 (i := 3) rfl) SL_nil))) (hd := (by kernel_rfl))) (SL_cons (SE_var O0 (i := 2) rfl) (SL_cons (SE_var O0 (i := 3) rfl) SL_nil))) (hd := (by kernel_rfl))) (i := 5) rfl (Nat.le_of_ble_eq_true rfl) (by kernel_rfl)) SS_nil) SS_nil) SS_nil)))) (SS_cons (SS_ret (SE_var O0 (i := 4) rfl)) SS_nil)))
noncomputable def m_mproduct : Fs := (sSeq (sAsg (eO (oLst (lCons (eC (.int 1)) lNil))) (gName 2)) (sSeq (sFor (iList (eVar 0)) (gName 3) (sSeq (sAsg (bindL F_mmul (lCons (eVar 2) (lCons (eVar 3) (lCons (eVar 1) lNil)))) (gName 2)) sNil)) (sSeq (sRet (eVar 2)) sNil)))
noncomputable def F_mproduct : List D → Option D := fBody m_mproduct ["some", "p"] ["some", "p", "found", "one"]
theorem sf_mproduct {G : Gx} (O : G.Ok) (hD : ∀ d ∈ theDefs, d ∈ G.defs) (s_mmul : SF G 2 "mmul" F_mmul) : SF G 3 "mproduct" F_mproduct := by
  refine SF_def O (hD _ (dr_in (i := 18) (by kernel_rfl))) (pn := ["some", "p"]) (names := ["some", "p", "found", "one"]) (m := m_mproduct) (by kernel_rfl) rfl (fun pm code doc vs h => ?_) (fun A pm code doc L a O0 => ?_)
  · exact len2 (fun _ _ => rfl) vs h
  · exact (SS_cons (SS_asg O0 (SO.eo (SO_list (SL_cons SE_int SL_nil))) (i := 2) rfl (Nat.le_of_ble_eq_true rfl) (by kernel_rfl)) (SS_cons (SS_for O0 (SI_list O0 (SE_var O0 (i := 0) rfl)) (TG_name O0 (i := 3) rfl (Nat.le_of_ble_eq_true rfl)) rfl (SS_cons (SS_asg O0 (SE_call O0 s_mmul (Nat.le_of_ble_eq_true rfl) (by kernel_rfl) (SL_cons (SE_var O0 (i := 2) rfl) (SL_cons (SE_var O0 (i := 3) rfl) (SL_cons (SE_var O0 (i := 1) rfl) SL_nil))) (hd := (by kernel_rfl))) (i := 2) rfl (Nat.le_of_ble_eq_true rfl) (by kernel_rfl)) SS_nil)) (SS_cons (SS_ret (SE_var O0 (i := 2) rfl)) SS_nil)))
noncomputable def m_morder : Fs := (sSeq (sRet (eTup (lCons (bindL fLen (lCons (eVarB 0) lNil)) (lCons (eO (oRev (eVarB 0))) lNil)))) sNil)
noncomputable def F_morder : List D → Option D := fBody m_morder ["a"] ["a"]
theorem sf_morder {G : Gx} (O : G.Ok) (hD : ∀ d ∈ theDefs, d ∈ G.defs) : SF G 1 "morder" F_morder := by
  refine SF_def O (hD _ (dr_in (i := 19) (by kernel_rfl))) (pn := ["a"]) (names := ["a"]) (m := m_morder) (by kernel_rfl) rfl (fun pm code doc vs h => ?_) (fun A pm code doc L a O0 => ?_)
  · exact len1 (fun _ => rfl) vs h
  · exact (SS_cons (SS_ret (SE_tuple (SL_cons (SE_blt O0 bl_len PyProof.Rows.Boot.«len» (.inl ⟨_, rfl⟩) (by decide) (by kernel_rfl) (SLB_cons (SB_var O0 (i := 0) rfl) SLB_nil)) (SL_cons (SO.eo (SO_rev (SB_var O0 (i := 0) rfl) (SE_neg SE_int))) SL_nil)))) SS_nil)
noncomputable def m_mroot : Fs := (sSeq (sRet (eO (oComp (bindLO fRange (lCons (eC (.int 0)) (lCons (bindL fLen (lCons (eVarB 0) lNil)) (lCons (eVar 1) lNil)))) 1 [0] (gName 0) (fun _ => some true) (kE (bind2 dIdx (eVarB 1) (eVar 0)))))) sNil)
noncomputable def F_mroot : List D → Option D := fBody m_mroot ["a", "p"] ["a", "p"]
theorem sf_mroot {G : Gx} (O : G.Ok) (hD : ∀ d ∈ theDefs, d ∈ G.defs) : SF G 1 "mroot" F_mroot := by
  refine SF_def O (hD _ (dr_in (i := 20) (by kernel_rfl))) (pn := ["a", "p"]) (names := ["a", "p"]) (m := m_mroot) (by kernel_rfl) rfl (fun pm code doc vs h => ?_) (fun A pm code doc L a O0 => ?_)
  · exact len2 (fun _ _ => rfl) vs h
  · exact (SS_cons (SS_ret (SO.eo (SO_comp O0 (es := _) (cn := ["a", "p"]) (names := ["at", "a"]) (ro := 1) (fi := [0]) rfl rfl (by kernel_rfl) (SI_blt O0 bl_range PyProof.Rows.Boot.«range» (.inr ⟨_, rfl⟩) (by decide) (by kernel_rfl) (SL_cons SE_int (SL_cons (SE_blt O0 bl_len PyProof.Rows.Boot.«len» (.inl ⟨_, rfl⟩) (by decide) (by kernel_rfl) (SLB_cons (SB_var O0 (i := 0) rfl) SLB_nil)) (SL_cons (SE_var O0 (i := 1) rfl) SL_nil)))) (fun _ O1 => (LB_last rfl (TG_name O1 (i := 0) rfl (Nat.le_of_ble_eq_true rfl)) ST_t0 (SE_idx (SB_var O1 (i := 1) rfl) (SE_var O1 (i := 0) rfl)) rfl rfl))))) SS_nil)
noncomputable def m_mgcd : Fs := (sSeq (sWhile 5000 (tOf (bind2 dGt (bindL fLen (lCons (eVarB 1) lNil)) (eC (.int 0)))) (sSeq (sTup true (rCons (rV (eVar 1)) (rCons (rV (bindL F_mrest (lCons (eVar 0) (lCons (eVar 1) (lCons (eVar 2) lNil))))) rNil)) [0, 1]) sNil)) (sSeq (sRet (bindL F_mmonic (lCons (eVar 0) (lCons (eVar 2) lNil)))) sNil))
noncomputable def F_mgcd : List D → Option D := fBody m_mgcd ["a", "b", "p"] ["a", "b", "p"]
theorem sf_mgcd {G : Gx} (O : G.Ok) (hD : ∀ d ∈ theDefs, d ∈ G.defs) (s_mmonic : SF G 3 "mmonic" F_mmonic) (s_mrest : SF G 4 "mrest" F_mrest) : SF G 5 "mgcd" F_mgcd := by
  refine SF_def O (hD _ (dr_in (i := 21) (by kernel_rfl))) (pn := ["a", "b", "p"]) (names := ["a", "b", "p"]) (m := m_mgcd) (by kernel_rfl) rfl (fun pm code doc vs h => ?_) (fun A pm code doc L a O0 => ?_)
  · exact len3 (fun _ _ _ => rfl) vs h
  · exact (SS_cons (SS_while 5000 (ST_cmp O0 op_gt (SE_blt O0 bl_len PyProof.Rows.Boot.«len» (.inl ⟨_, rfl⟩) (by decide) (by kernel_rfl) (SLB_cons (SB_var O0 (i := 1) rfl) SLB_nil)) SE_int) (SS_cons (SS_tupS O0 (SRL_cons (SE.r (SE_var O0 (i := 1) rfl)) (SRL_cons (SE.r (SE_call O0 s_mrest (Nat.le_of_ble_eq_true rfl) (by kernel_rfl) (SL_cons (SE_var O0 (i := 0) rfl) (SL_cons (SE_var O0 (i := 1) rfl) (SL_cons (SE_var O0 (i := 2) rfl) SL_nil))) (hd := (by kernel_rfl)))) SRL_nil)) (xs := ["a", "b"]) (tg_cons (i := 0) rfl (Nat.le_of_ble_eq_true rfl) (tg_cons (i := 1) rfl (Nat.le_of_ble_eq_true rfl) tg_nil)) (by decide) (by kernel_rfl) (by kernel_rfl)) SS_nil)) (SS_cons (SS_ret (SE_call O0 s_mmonic (Nat.le_of_ble_eq_true rfl) (by kernel_rfl) (SL_cons (SE_var O0 (i := 0) rfl) (SL_cons (SE_var O0 (i := 2) rfl) SL_nil)) (hd := (by kernel_rfl)))) SS_nil))
noncomputable def m_parts_once : Fs := (sSeq (sTup true (rCons (rO (oLst lNil)) (rCons (rV (eVar 1)) rNil)) [3, 4]) (sSeq (sAsg (bindL F_mgcd (lCons (eVar 0) (lCons (bindL F_mderive (lCons (eVar 0) (lCons (eVar 2) lNil))) (lCons (eVar 2) lNil)))) (gName 5)) (sSeq (sAsg (bindL F_mquotient (lCons (eVar 0) (lCons (eVar 5) (lCons (eVar 2) lNil)))) (gName 6)) (sSeq (sWhile 5000 (tOf (bind2 dGt (bindL F_mdegree (lCons (eVar 6) lNil)) (eC (.int 0)))) (sSeq (sAsg (bindL F_mgcd (lCons (eVar 6) (lCons (eVar 5) (lCons (eVar 2) lNil)))) (gName 7)) (sSeq (sAsg (bindL F_mquotient (lCons (eVar 6) (lCons (eVar 7) (lCons (eVar 2) lNil)))) (gName 8)) (sSeq (sIf (tOf (bind2 dGt (bindL F_mdegree (lCons (eVar 8) lNil)) (eC (.int 0)))) (sSeq (sApp 3 (eTup (lCons (eVar 8) (lCons (eVar 4) lNil)))) sNil) sNil) (sSeq (sTup true (rCons (rV (eVar 7)) (rCons (rV (bindL F_mquotient (lCons (eVar 5) (lCons (eVar 7) (lCons (eVar 2) lNil))))) (rCons (rV (bind2 dAdd (eVar 4) (eVar 1))) rNil))) [6, 5, 4]) sNil))))) (sSeq (sFrz 3 (sRet (eTup (lCons (eVar 3) (lCons (eVar 5) lNil))))) sNil)))))
noncomputable def F_parts_once : List D → Option D := fBody m_parts_once ["f", "many", "p"] ["f", "many", "p", "found", "at", "common", "left", "shared", "part"]
theorem sf_parts_once {G : Gx} (O : G.Ok) (hD : ∀ d ∈ theDefs, d ∈ G.defs) (s_mdegree : SF G 1 "mdegree" F_mdegree) (s_mquotient : SF G 4 "mquotient" F_mquotient) (s_mgcd : SF G 5 "mgcd" F_mgcd) (s_mderive : SF G 2 "mderive" F_mderive) : SF G 6 "parts_once" F_parts_once := by
  refine SF_def O (hD _ (dr_in (i := 22) (by kernel_rfl))) (pn := ["f", "many", "p"]) (names := ["f", "many", "p", "found", "at", "common", "left", "shared", "part"]) (m := m_parts_once) (by kernel_rfl) rfl (fun pm code doc vs h => ?_) (fun A pm code doc L a O0 => ?_)
  · exact len3 (fun _ _ _ => rfl) vs h
  · exact (SS_cons (SS_tupS O0 (SRL_cons (SO.r (SO_list SL_nil)) (SRL_cons (SE.r (SE_var O0 (i := 1) rfl)) SRL_nil)) (xs := ["found", "at"]) (tg_cons (i := 3) rfl (Nat.le_of_ble_eq_true rfl) (tg_cons (i := 4) rfl (Nat.le_of_ble_eq_true rfl) tg_nil)) (by decide) (by kernel_rfl) (by kernel_rfl)) (SS_cons (SS_asg O0 (SE_call O0 s_mgcd (Nat.le_of_ble_eq_true rfl) (by kernel_rfl) (SL_cons (SE_var O0 (i := 0) rfl) (SL_cons (SE_call O0 s_mderive (Nat.le_of_ble_eq_true rfl) (by kernel_rfl) (SL_cons (SE_var O0 (i := 0) rfl) (SL_cons (SE_var O0 (i := 2) rfl) SL_nil)) (hd := (by kernel_rfl))) (SL_cons (SE_var O0 (i := 2) rfl) SL_nil))) (hd := (by kernel_rfl))) (i := 5) rfl (Nat.le_of_ble_eq_true rfl) (by kernel_rfl)) (SS_cons (SS_asg O0 (SE_call O0 s_mquotient (Nat.le_of_ble_eq_true rfl) (by kernel_rfl) (SL_cons (SE_var O0 (i := 0) rfl) (SL_cons (SE_var O0 (i := 5) rfl) (SL_cons (SE_var O0 (i := 2) rfl) SL_nil))) (hd := (by kernel_rfl))) (i := 6) rfl (Nat.le_of_ble_eq_true rfl) (by kernel_rfl)) (SS_cons (SS_while 5000 (ST_cmp O0 op_gt (SE_call O0 s_mdegree (Nat.le_of_ble_eq_true rfl) (by kernel_rfl) (SL_cons (SE_var O0 (i := 6) rfl) SL_nil) (hd := (by kernel_rfl))) SE_int) (SS_cons (SS_asg O0 (SE_call O0 s_mgcd (Nat.le_of_ble_eq_true rfl) (by kernel_rfl) (SL_cons (SE_var O0 (i := 6) rfl) (SL_cons (SE_var O0 (i := 5) rfl) (SL_cons (SE_var O0 (i := 2) rfl) SL_nil))) (hd := (by kernel_rfl))) (i := 7) rfl (Nat.le_of_ble_eq_true rfl) (by kernel_rfl)) (SS_cons (SS_asg O0 (SE_call O0 s_mquotient (Nat.le_of_ble_eq_true rfl) (by kernel_rfl) (SL_cons (SE_var O0 (i := 6) rfl) (SL_cons (SE_var O0 (i := 7) rfl) (SL_cons (SE_var O0 (i := 2) rfl) SL_nil))) (hd := (by kernel_rfl))) (i := 8) rfl (Nat.le_of_ble_eq_true rfl) (by kernel_rfl)) (SS_cons (SS_if (ST_cmp O0 op_gt (SE_call O0 s_mdegree (Nat.le_of_ble_eq_true rfl) (by kernel_rfl) (SL_cons (SE_var O0 (i := 8) rfl) SL_nil) (hd := (by kernel_rfl))) SE_int) (SS_cons (SS_append O0 (i := 3) rfl (SE_tuple (SL_cons (SE_var O0 (i := 8) rfl) (SL_cons (SE_var O0 (i := 4) rfl) SL_nil))) (by kernel_rfl)) SS_nil) SS_nil) (SS_cons (SS_tupS O0 (SRL_cons (SE.r (SE_var O0 (i := 7) rfl)) (SRL_cons (SE.r (SE_call O0 s_mquotient (Nat.le_of_ble_eq_true rfl) (by kernel_rfl) (SL_cons (SE_var O0 (i := 5) rfl) (SL_cons (SE_var O0 (i := 7) rfl) (SL_cons (SE_var O0 (i := 2) rfl) SL_nil))) (hd := (by kernel_rfl)))) (SRL_cons (SE.r (SE_bin O0 op_add (SE_var O0 (i := 4) rfl) (SE_var O0 (i := 1) rfl))) SRL_nil))) (xs := ["left", "common", "at"]) (tg_cons (i := 6) rfl (Nat.le_of_ble_eq_true rfl) (tg_cons (i := 5) rfl (Nat.le_of_ble_eq_true rfl) (tg_cons (i := 4) rfl (Nat.le_of_ble_eq_true rfl) tg_nil))) (by decide) (by kernel_rfl) (by kernel_rfl)) SS_nil))))) (SS_cons (SS_frz' 3 (SS_ret (SE_tuple (SL_cons (SE_var O0 (i := 3) rfl) (SL_cons (SE_var O0 (i := 5) rfl) SL_nil))))) SS_nil)))))
noncomputable def m_square_free_parts : Fs := (sSeq (sTup true (rCons (rO (oLst lNil)) (rCons (rV (eC (.int 1))) rNil)) [2, 3]) (sSeq (sWhile 5000 (tOf (bind2 dGt (bindL F_mdegree (lCons (eVar 0) lNil)) (eC (.int 0)))) (sSeq (sAsg (bindL F_parts_once (lCons (eVar 0) (lCons (eVar 3) (lCons (eVar 1) lNil)))) (gTup [4, 5])) (sSeq (sExt 2 (eVar 4)) (sSeq (sTup true (rCons (rV (bindL F_mroot (lCons (eVar 5) (lCons (eVar 1) lNil)))) (rCons (rV (bind2 dMul (eVar 3) (eVar 1))) rNil)) [0, 3]) sNil)))) (sSeq (sFrz 2 (sRet (eVar 2))) sNil)))
noncomputable def F_square_free_parts : List D → Option D := fBody m_square_free_parts ["f", "p"] ["f", "p", "found", "many", "parts", "rest"]
theorem sf_square_free_parts {G : Gx} (O : G.Ok) (hD : ∀ d ∈ theDefs, d ∈ G.defs) (s_mdegree : SF G 1 "mdegree" F_mdegree) (s_mroot : SF G 1 "mroot" F_mroot) (s_parts_once : SF G 6 "parts_once" F_parts_once) : SF G 7 "square_free_parts" F_square_free_parts := by
  refine SF_def O (hD _ (dr_in (i := 23) (by kernel_rfl))) (pn := ["f", "p"]) (names := ["f", "p", "found", "many", "parts", "rest"]) (m := m_square_free_parts) (by kernel_rfl) rfl (fun pm code doc vs h => ?_) (fun A pm code doc L a O0 => ?_)
  · exact len2 (fun _ _ => rfl) vs h
  · exact (SS_cons (SS_tupS O0 (SRL_cons (SO.r (SO_list SL_nil)) (SRL_cons (SE.r SE_int) SRL_nil)) (xs := ["found", "many"]) (tg_cons (i := 2) rfl (Nat.le_of_ble_eq_true rfl) (tg_cons (i := 3) rfl (Nat.le_of_ble_eq_true rfl) tg_nil)) (by decide) (by kernel_rfl) (by kernel_rfl)) (SS_cons (SS_while 5000 (ST_cmp O0 op_gt (SE_call O0 s_mdegree (Nat.le_of_ble_eq_true rfl) (by kernel_rfl) (SL_cons (SE_var O0 (i := 0) rfl) SL_nil) (hd := (by kernel_rfl))) SE_int) (SS_cons (SS_asgT O0 (SE_call O0 s_parts_once (Nat.le_of_ble_eq_true rfl) (by kernel_rfl) (SL_cons (SE_var O0 (i := 0) rfl) (SL_cons (SE_var O0 (i := 3) rfl) (SL_cons (SE_var O0 (i := 1) rfl) SL_nil))) (hd := (by kernel_rfl))) (Elts_cons (i := 4) rfl (Nat.le_of_ble_eq_true rfl) (Elts_cons (i := 5) rfl (Nat.le_of_ble_eq_true rfl) Elts_nil)) (by kernel_rfl) (by kernel_rfl)) (SS_cons (SS_extend O0 (i := 2) rfl (SE_var O0 (i := 4) rfl) (by kernel_rfl)) (SS_cons (SS_tupS O0 (SRL_cons (SE.r (SE_call O0 s_mroot (Nat.le_of_ble_eq_true rfl) (by kernel_rfl) (SL_cons (SE_var O0 (i := 5) rfl) (SL_cons (SE_var O0 (i := 1) rfl) SL_nil)) (hd := (by kernel_rfl)))) (SRL_cons (SE.r (SE_bin O0 op_mul (SE_var O0 (i := 3) rfl) (SE_var O0 (i := 1) rfl))) SRL_nil)) (xs := ["f", "many"]) (tg_cons (i := 0) rfl (Nat.le_of_ble_eq_true rfl) (tg_cons (i := 3) rfl (Nat.le_of_ble_eq_true rfl) tg_nil)) (by decide) (by kernel_rfl) (by kernel_rfl)) SS_nil)))) (SS_cons (SS_frz' 2 (SS_ret (SE_var O0 (i := 2) rfl))) SS_nil)))
noncomputable def m_distinct_degrees : Fs := (sSeq (sTup true (rCons (rO (oLst lNil)) (rCons (rV (eC (.int 0))) (rCons (rV (eO (oLst (lCons (eC (.int 0)) (lCons (eC (.int 1)) lNil))))) rNil))) [2, 3, 4]) (sSeq (sWhile 5000 (tOf (bind2 dGe (bindL F_mdegree (lCons (eVar 0) lNil)) (bind2 dMul (eC (.int 2)) (bind2 dAdd (eVar 3) (eC (.int 1)))))) (sSeq (sAsg (bind2 dAdd (eVar 3) (eC (.int 1))) (gName 3)) (sSeq (sAsg (bindL F_mpower_mod (lCons (eVar 4) (lCons (eVar 1) (lCons (eVar 0) (lCons (eVar 1) lNil))))) (gName 4)) (sSeq (sAsg (bindL F_mgcd (lCons (bindL F_msub (lCons (eVar 4) (lCons (eO (oLst (lCons (eC (.int 0)) (lCons (eC (.int 1)) lNil)))) (lCons (eVar 1) lNil)))) (lCons (eVar 0) (lCons (eVar 1) lNil)))) (gName 5)) (sSeq (sIf (tOf (bind2 dGt (bindL F_mdegree (lCons (eVar 5) lNil)) (eC (.int 0)))) (sSeq (sApp 2 (eTup (lCons (eVar 5) (lCons (eVar 3) lNil)))) (sSeq (sAsg (bindL F_mquotient (lCons (eVar 0) (lCons (eVar 5) (lCons (eVar 1) lNil)))) (gName 0)) (sSeq (sAsg (bindL F_mrest (lCons (eVar 4) (lCons (eVar 0) (lCons (eVar 1) lNil)))) (gName 4)) sNil))) sNil) sNil))))) (sSeq (sIf (tOf (bind2 dGt (bindL F_mdegree (lCons (eVar 0) lNil)) (eC (.int 0)))) (sSeq (sApp 2 (eTup (lCons (eVar 0) (lCons (bindL F_mdegree (lCons (eVar 0) lNil)) lNil)))) sNil) sNil) (sSeq (sFrz 2 (sRet (eVar 2))) sNil))))
noncomputable def F_distinct_degrees : List D → Option D := fBody m_distinct_degrees ["f", "p"] ["f", "p", "found", "degree", "power", "common"]
theorem sf_distinct_degrees {G : Gx} (O : G.Ok) (hD : ∀ d ∈ theDefs, d ∈ G.defs) (s_mdegree : SF G 1 "mdegree" F_mdegree) (s_mrest : SF G 4 "mrest" F_mrest) (s_mquotient : SF G 4 "mquotient" F_mquotient) (s_msub : SF G 3 "msub" F_msub) (s_mgcd : SF G 5 "mgcd" F_mgcd) (s_mpower_mod : SF G 5 "mpower_mod" F_mpower_mod) : SF G 6 "distinct_degrees" F_distinct_degrees := by
  refine SF_def O (hD _ (dr_in (i := 24) (by kernel_rfl))) (pn := ["f", "p"]) (names := ["f", "p", "found", "degree", "power", "common"]) (m := m_distinct_degrees) (by kernel_rfl) rfl (fun pm code doc vs h => ?_) (fun A pm code doc L a O0 => ?_)
  · exact len2 (fun _ _ => rfl) vs h
  · exact (SS_cons (SS_tupS O0 (SRL_cons (SO.r (SO_list SL_nil)) (SRL_cons (SE.r SE_int) (SRL_cons (SE.r (SO.eo (SO_list (SL_cons SE_int (SL_cons SE_int SL_nil))))) SRL_nil))) (xs := ["found", "degree", "power"]) (tg_cons (i := 2) rfl (Nat.le_of_ble_eq_true rfl) (tg_cons (i := 3) rfl (Nat.le_of_ble_eq_true rfl) (tg_cons (i := 4) rfl (Nat.le_of_ble_eq_true rfl) tg_nil))) (by decide) (by kernel_rfl) (by kernel_rfl)) (SS_cons (SS_while 5000 (ST_cmp O0 op_ge (SE_call O0 s_mdegree (Nat.le_of_ble_eq_true rfl) (by kernel_rfl) (SL_cons (SE_var O0 (i := 0) rfl) SL_nil) (hd := (by kernel_rfl))) (SE_bin O0 op_mul SE_int (SE_bin O0 op_add (SE_var O0 (i := 3) rfl) SE_int))) (SS_cons (SS_asg O0 (SE_bin O0 op_add (SE_var O0 (i := 3) rfl) SE_int) (i := 3) rfl (Nat.le_of_ble_eq_true rfl) (by kernel_rfl)) (SS_cons (SS_asg O0 (SE_call O0 s_mpower_mod (Nat.le_of_ble_eq_true rfl) (by kernel_rfl) (SL_cons (SE_var O0 (i := 4) rfl) (SL_cons (SE_var O0 (i := 1) rfl) (SL_cons (SE_var O0 (i := 0) rfl) (SL_cons (SE_var O0 (i := 1) rfl) SL_nil)))) (hd := (by kernel_rfl))) (i := 4) rfl (Nat.le_of_ble_eq_true rfl) (by kernel_rfl)) (SS_cons (SS_asg O0 (SE_call O0 s_mgcd (Nat.le_of_ble_eq_true rfl) (by kernel_rfl) (SL_cons (SE_call O0 s_msub (Nat.le_of_ble_eq_true rfl) (by kernel_rfl) (SL_cons (SE_var O0 (i := 4) rfl) (SL_cons (SO.eo (SO_list (SL_cons SE_int (SL_cons SE_int SL_nil)))) (SL_cons (SE_var O0 (i := 1) rfl) SL_nil))) (hd := (by kernel_rfl))) (SL_cons (SE_var O0 (i := 0) rfl) (SL_cons (SE_var O0 (i := 1) rfl) SL_nil))) (hd := (by kernel_rfl))) (i := 5) rfl (Nat.le_of_ble_eq_true rfl) (by kernel_rfl)) (SS_cons (SS_if (ST_cmp O0 op_gt (SE_call O0 s_mdegree (Nat.le_of_ble_eq_true rfl) (by kernel_rfl) (SL_cons (SE_var O0 (i := 5) rfl) SL_nil) (hd := (by kernel_rfl))) SE_int) (SS_cons (SS_append O0 (i := 2) rfl (SE_tuple (SL_cons (SE_var O0 (i := 5) rfl) (SL_cons (SE_var O0 (i := 3) rfl) SL_nil))) (by kernel_rfl)) (SS_cons (SS_asg O0 (SE_call O0 s_mquotient (Nat.le_of_ble_eq_true rfl) (by kernel_rfl) (SL_cons (SE_var O0 (i := 0) rfl) (SL_cons (SE_var O0 (i := 5) rfl) (SL_cons (SE_var O0 (i := 1) rfl) SL_nil))) (hd := (by kernel_rfl))) (i := 0) rfl (Nat.le_of_ble_eq_true rfl) (by kernel_rfl)) (SS_cons (SS_asg O0 (SE_call O0 s_mrest (Nat.le_of_ble_eq_true rfl) (by kernel_rfl) (SL_cons (SE_var O0 (i := 4) rfl) (SL_cons (SE_var O0 (i := 0) rfl) (SL_cons (SE_var O0 (i := 1) rfl) SL_nil))) (hd := (by kernel_rfl))) (i := 4) rfl (Nat.le_of_ble_eq_true rfl) (by kernel_rfl)) SS_nil))) SS_nil) SS_nil))))) (SS_cons (SS_if (ST_cmp O0 op_gt (SE_call O0 s_mdegree (Nat.le_of_ble_eq_true rfl) (by kernel_rfl) (SL_cons (SE_var O0 (i := 0) rfl) SL_nil) (hd := (by kernel_rfl))) SE_int) (SS_cons (SS_append O0 (i := 2) rfl (SE_tuple (SL_cons (SE_var O0 (i := 0) rfl) (SL_cons (SE_call O0 s_mdegree (Nat.le_of_ble_eq_true rfl) (by kernel_rfl) (SL_cons (SE_var O0 (i := 0) rfl) SL_nil) (hd := (by kernel_rfl))) SL_nil))) (by kernel_rfl)) SS_nil) SS_nil) (SS_cons (SS_frz' 2 (SS_ret (SE_var O0 (i := 2) rfl))) SS_nil))))
noncomputable def m_trace_power : Fs := (sSeq (sTup true (rCons (rV (eO (oLst lNil))) (rCons (rV (bindL F_mrest (lCons (eVar 0) (lCons (eVar 2) (lCons (eVar 3) lNil))))) rNil)) [4, 5]) (sSeq (sFor (bindLO fRange (lCons (eVar 1) lNil)) (gName 6) (sSeq (sAsg (bindL F_madd (lCons (eVar 4) (lCons (eVar 5) (lCons (eVar 3) lNil)))) (gName 4)) (sSeq (sAsg (bindL F_mrest (lCons (bindL F_mmul (lCons (eVar 5) (lCons (eVar 5) (lCons (eVar 3) lNil)))) (lCons (eVar 2) (lCons (eVar 3) lNil)))) (gName 5)) sNil))) (sSeq (sRet (eVar 4)) sNil)))
noncomputable def F_trace_power : List D → Option D := fBody m_trace_power ["a", "many", "f", "p"] ["a", "many", "f", "p", "found", "square", "turn"]
theorem sf_trace_power {G : Gx} (O : G.Ok) (hD : ∀ d ∈ theDefs, d ∈ G.defs) (s_mmul : SF G 2 "mmul" F_mmul) (s_mrest : SF G 4 "mrest" F_mrest) (s_madd : SF G 2 "madd" F_madd) : SF G 5 "trace_power" F_trace_power := by
  refine SF_def O (hD _ (dr_in (i := 25) (by kernel_rfl))) (pn := ["a", "many", "f", "p"]) (names := ["a", "many", "f", "p", "found", "square", "turn"]) (m := m_trace_power) (by kernel_rfl) rfl (fun pm code doc vs h => ?_) (fun A pm code doc L a O0 => ?_)
  · exact len4 (fun _ _ _ _ => rfl) vs h
  · exact (SS_cons (SS_tupS O0 (SRL_cons (SE.r (SO.eo (SO_list SL_nil))) (SRL_cons (SE.r (SE_call O0 s_mrest (Nat.le_of_ble_eq_true rfl) (by kernel_rfl) (SL_cons (SE_var O0 (i := 0) rfl) (SL_cons (SE_var O0 (i := 2) rfl) (SL_cons (SE_var O0 (i := 3) rfl) SL_nil))) (hd := (by kernel_rfl)))) SRL_nil)) (xs := ["found", "square"]) (tg_cons (i := 4) rfl (Nat.le_of_ble_eq_true rfl) (tg_cons (i := 5) rfl (Nat.le_of_ble_eq_true rfl) tg_nil)) (by decide) (by kernel_rfl) (by kernel_rfl)) (SS_cons (SS_for O0 (SI_blt O0 bl_range PyProof.Rows.Boot.«range» (.inr ⟨_, rfl⟩) (by decide) (by kernel_rfl) (SL_cons (SE_var O0 (i := 1) rfl) SL_nil)) (TG_name O0 (i := 6) rfl (Nat.le_of_ble_eq_true rfl)) rfl (SS_cons (SS_asg O0 (SE_call O0 s_madd (Nat.le_of_ble_eq_true rfl) (by kernel_rfl) (SL_cons (SE_var O0 (i := 4) rfl) (SL_cons (SE_var O0 (i := 5) rfl) (SL_cons (SE_var O0 (i := 3) rfl) SL_nil))) (hd := (by kernel_rfl))) (i := 4) rfl (Nat.le_of_ble_eq_true rfl) (by kernel_rfl)) (SS_cons (SS_asg O0 (SE_call O0 s_mrest (Nat.le_of_ble_eq_true rfl) (by kernel_rfl) (SL_cons (SE_call O0 s_mmul (Nat.le_of_ble_eq_true rfl) (by kernel_rfl) (SL_cons (SE_var O0 (i := 5) rfl) (SL_cons (SE_var O0 (i := 5) rfl) (SL_cons (SE_var O0 (i := 3) rfl) SL_nil))) (hd := (by kernel_rfl))) (SL_cons (SE_var O0 (i := 2) rfl) (SL_cons (SE_var O0 (i := 3) rfl) SL_nil))) (hd := (by kernel_rfl))) (i := 5) rfl (Nat.le_of_ble_eq_true rfl) (by kernel_rfl)) SS_nil))) (SS_cons (SS_ret (SE_var O0 (i := 4) rfl)) SS_nil)))
noncomputable def m_split_power : Fs := (sSeq (sIf (tOf (bind2 dEq (eVar 3) (eC (.int 2)))) (sSeq (sRet (bindL F_msub (lCons (bindL F_trace_power (lCons (eVar 0) (lCons (eVar 1) (lCons (eVar 2) (lCons (eVar 3) lNil))))) (lCons (eO (oLst (lCons (eC (.int 1)) lNil))) (lCons (eVar 3) lNil))))) sNil) sNil) (sSeq (sRet (bindL F_msub (lCons (bindL F_mpower_mod (lCons (eVar 0) (lCons (bind2 dDiv (bind2 dSub (bind2 dPow (eVar 3) (eVar 1)) (eC (.int 1))) (eC (.int 2))) (lCons (eVar 2) (lCons (eVar 3) lNil))))) (lCons (eO (oLst (lCons (eC (.int 1)) lNil))) (lCons (eVar 3) lNil))))) sNil))
noncomputable def F_split_power : List D → Option D := fBody m_split_power ["a", "degree", "f", "p"] ["a", "degree", "f", "p"]
theorem sf_split_power {G : Gx} (O : G.Ok) (hD : ∀ d ∈ theDefs, d ∈ G.defs) (s_mpower_mod : SF G 5 "mpower_mod" F_mpower_mod) (s_msub : SF G 3 "msub" F_msub) (s_trace_power : SF G 5 "trace_power" F_trace_power) : SF G 6 "split_power" F_split_power := by
  refine SF_def O (hD _ (dr_in (i := 26) (by kernel_rfl))) (pn := ["a", "degree", "f", "p"]) (names := ["a", "degree", "f", "p"]) (m := m_split_power) (by kernel_rfl) rfl (fun pm code doc vs h => ?_) (fun A pm code doc L a O0 => ?_)
  · exact len4 (fun _ _ _ _ => rfl) vs h
  · exact (SS_cons (SS_if (ST_cmp O0 op_eq (SE_var O0 (i := 3) rfl) SE_int) (SS_cons (SS_ret (SE_call O0 s_msub (Nat.le_of_ble_eq_true rfl) (by kernel_rfl) (SL_cons (SE_call O0 s_trace_power (Nat.le_of_ble_eq_true rfl) (by kernel_rfl) (SL_cons (SE_var O0 (i := 0) rfl) (SL_cons (SE_var O0 (i := 1) rfl) (SL_cons (SE_var O0 (i := 2) rfl) (SL_cons (SE_var O0 (i := 3) rfl) SL_nil)))) (hd := (by kernel_rfl))) (SL_cons (SO.eo (SO_list (SL_cons SE_int SL_nil))) (SL_cons (SE_var O0 (i := 3) rfl) SL_nil))) (hd := (by kernel_rfl)))) SS_nil) SS_nil) (SS_cons (SS_ret (SE_call O0 s_msub (Nat.le_of_ble_eq_true rfl) (by kernel_rfl) (SL_cons (SE_call O0 s_mpower_mod (Nat.le_of_ble_eq_true rfl) (by kernel_rfl) (SL_cons (SE_var O0 (i := 0) rfl) (SL_cons (SE_bin O0 op_div (SE_bin O0 op_sub (SE_bin O0 op_pow (SE_var O0 (i := 3) rfl) (SE_var O0 (i := 1) rfl)) SE_int) SE_int) (SL_cons (SE_var O0 (i := 2) rfl) (SL_cons (SE_var O0 (i := 3) rfl) SL_nil)))) (hd := (by kernel_rfl))) (SL_cons (SO.eo (SO_list (SL_cons SE_int SL_nil))) (SL_cons (SE_var O0 (i := 3) rfl) SL_nil))) (hd := (by kernel_rfl)))) SS_nil))
noncomputable def m_split_once : Fs := (sSeq (sAsg (bindL F_mgcd (lCons (eVar 2) (lCons (eVar 0) (lCons (eVar 3) lNil)))) (gName 4)) (sSeq (sIf (tChain dLt dLt (eC (.int 0)) (bindL F_mdegree (lCons (eVar 4) lNil)) (bindL F_mdegree (lCons (eVar 0) lNil))) (sSeq (sRet (eVar 4)) sNil) sNil) (sSeq (sAsg (bindL F_mgcd (lCons (bindL F_split_power (lCons (eVar 2) (lCons (eVar 1) (lCons (eVar 0) (lCons (eVar 3) lNil))))) (lCons (eVar 0) (lCons (eVar 3) lNil)))) (gName 4)) (sSeq (sRet (eIf (tChain dLt dLt (eC (.int 0)) (bindL F_mdegree (lCons (eVar 4) lNil)) (bindL F_mdegree (lCons (eVar 0) lNil))) (eVar 4) (eC .none))) sNil))))
noncomputable def F_split_once : List D → Option D := fBody m_split_once ["f", "degree", "a", "p"] ["f", "degree", "a", "p", "common"]
theorem sf_split_once {G : Gx} (O : G.Ok) (hD : ∀ d ∈ theDefs, d ∈ G.defs) (s_mdegree : SF G 1 "mdegree" F_mdegree) (s_split_power : SF G 6 "split_power" F_split_power) (s_mgcd : SF G 5 "mgcd" F_mgcd) : SF G 7 "split_once" F_split_once := by
  refine SF_def O (hD _ (dr_in (i := 27) (by kernel_rfl))) (pn := ["f", "degree", "a", "p"]) (names := ["f", "degree", "a", "p", "common"]) (m := m_split_once) (by kernel_rfl) rfl (fun pm code doc vs h => ?_) (fun A pm code doc L a O0 => ?_)
  · exact len4 (fun _ _ _ _ => rfl) vs h
  · exact (SS_cons (SS_asg O0 (SE_call O0 s_mgcd (Nat.le_of_ble_eq_true rfl) (by kernel_rfl) (SL_cons (SE_var O0 (i := 2) rfl) (SL_cons (SE_var O0 (i := 0) rfl) (SL_cons (SE_var O0 (i := 3) rfl) SL_nil))) (hd := (by kernel_rfl))) (i := 4) rfl (Nat.le_of_ble_eq_true rfl) (by kernel_rfl)) (SS_cons (SS_if (ST_chain O0 op_lt op_lt SE_int (SE_call O0 s_mdegree (Nat.le_of_ble_eq_true rfl) (by kernel_rfl) (SL_cons (SE_var O0 (i := 4) rfl) SL_nil) (hd := (by kernel_rfl))) (SE_call O0 s_mdegree (Nat.le_of_ble_eq_true rfl) (by kernel_rfl) (SL_cons (SE_var O0 (i := 0) rfl) SL_nil) (hd := (by kernel_rfl)))) (SS_cons (SS_ret (SE_var O0 (i := 4) rfl)) SS_nil) SS_nil) (SS_cons (SS_asg O0 (SE_call O0 s_mgcd (Nat.le_of_ble_eq_true rfl) (by kernel_rfl) (SL_cons (SE_call O0 s_split_power (Nat.le_of_ble_eq_true rfl) (by kernel_rfl) (SL_cons (SE_var O0 (i := 2) rfl) (SL_cons (SE_var O0 (i := 1) rfl) (SL_cons (SE_var O0 (i := 0) rfl) (SL_cons (SE_var O0 (i := 3) rfl) SL_nil)))) (hd := (by kernel_rfl))) (SL_cons (SE_var O0 (i := 0) rfl) (SL_cons (SE_var O0 (i := 3) rfl) SL_nil))) (hd := (by kernel_rfl))) (i := 4) rfl (Nat.le_of_ble_eq_true rfl) (by kernel_rfl)) (SS_cons (SS_ret (SE_if (ST_chain O0 op_lt op_lt SE_int (SE_call O0 s_mdegree (Nat.le_of_ble_eq_true rfl) (by kernel_rfl) (SL_cons (SE_var O0 (i := 4) rfl) SL_nil) (hd := (by kernel_rfl))) (SE_call O0 s_mdegree (Nat.le_of_ble_eq_true rfl) (by kernel_rfl) (SL_cons (SE_var O0 (i := 0) rfl) SL_nil) (hd := (by kernel_rfl)))) (SE_var O0 (i := 4) rfl) SE_none)) SS_nil))))
noncomputable def m_counted : Fs := (sSeq (sAsgO (oLst lNil) 2) (sSeq (sWhile 5000 (tOf (bind2 dGt (eVar 0) (eC (.int 0)))) (sSeq (sApp 2 (bind2 dMod (eVar 0) (eVar 1))) (sSeq (sAsg (bind2 dDiv (eVar 0) (eVar 1)) (gName 0)) sNil))) (sSeq (sFrz 2 (sRet (bindL F_mtrim (lCons (eVar 2) lNil)))) sNil)))
noncomputable def F_counted : List D → Option D := fBody m_counted ["number", "p"] ["number", "p", "found"]
theorem sf_counted {G : Gx} (O : G.Ok) (hD : ∀ d ∈ theDefs, d ∈ G.defs) (s_mtrim : SF G 1 "mtrim" F_mtrim) : SF G 2 "counted" F_counted := by
  refine SF_def O (hD _ (dr_in (i := 30) (by kernel_rfl))) (pn := ["number", "p"]) (names := ["number", "p", "found"]) (m := m_counted) (by kernel_rfl) rfl (fun pm code doc vs h => ?_) (fun A pm code doc L a O0 => ?_)
  · exact len2 (fun _ _ => rfl) vs h
  · exact (SS_cons (SS_asgO O0 (SO_list SL_nil) (i := 2) rfl (Nat.le_of_ble_eq_true rfl) (by kernel_rfl)) (SS_cons (SS_while 5000 (ST_cmp O0 op_gt (SE_var O0 (i := 0) rfl) SE_int) (SS_cons (SS_append O0 (i := 2) rfl (SE_bin O0 op_mod (SE_var O0 (i := 0) rfl) (SE_var O0 (i := 1) rfl)) (by kernel_rfl)) (SS_cons (SS_asg O0 (SE_bin O0 op_div (SE_var O0 (i := 0) rfl) (SE_var O0 (i := 1) rfl)) (i := 0) rfl (Nat.le_of_ble_eq_true rfl) (by kernel_rfl)) SS_nil))) (SS_cons (SS_frz' 2 (SS_ret (SE_call O0 s_mtrim (Nat.le_of_ble_eq_true rfl) (by kernel_rfl) (SL_cons (SE_var O0 (i := 2) rfl) SL_nil) (hd := (by kernel_rfl))))) SS_nil)))
noncomputable def m_first_split : Fs := (sSeq (sFor (iList (eVar 2)) (gName 4) (sSeq (sAsg (bindL F_split_once (lCons (eVar 0) (lCons (eVar 1) (lCons (bindL F_mrest (lCons (eVar 4) (lCons (eVar 0) (lCons (eVar 3) lNil)))) (lCons (eVar 3) lNil))))) (gName 5)) (sSeq (sIf (tOf (bind2 dIsNot (eVar 5) (eC .none))) (sSeq (sRet (eVar 5)) sNil) sNil) sNil))) (sSeq (sTup true (rCons (rV (eVar 3)) (rCons (rV (eC .none)) rNil)) [6, 5]) (sSeq (sWhile 5000 (tOf (bind2 dIs (eVar 5) (eC .none))) (sSeq (sAsg (bindL F_split_once (lCons (eVar 0) (lCons (eVar 1) (lCons (bindL F_counted (lCons (eVar 6) (lCons (eVar 3) lNil))) (lCons (eVar 3) lNil))))) (gName 5)) (sSeq (sAsg (bind2 dAdd (eVar 6) (eC (.int 1))) (gName 6)) sNil))) (sSeq (sRet (eVar 5)) sNil))))
noncomputable def F_first_split : List D → Option D := fBody m_first_split ["f", "degree", "choices", "p"] ["f", "degree", "choices", "p", "a", "part", "number"]
theorem sf_first_split {G : Gx} (O : G.Ok) (hD : ∀ d ∈ theDefs, d ∈ G.defs) (s_counted : SF G 2 "counted" F_counted) (s_split_once : SF G 7 "split_once" F_split_once) (s_mrest : SF G 4 "mrest" F_mrest) : SF G 8 "first_split" F_first_split := by
  refine SF_def O (hD _ (dr_in (i := 29) (by kernel_rfl))) (pn := ["f", "degree", "choices", "p"]) (names := ["f", "degree", "choices", "p", "a", "part", "number"]) (m := m_first_split) (by kernel_rfl) rfl (fun pm code doc vs h => ?_) (fun A pm code doc L a O0 => ?_)
  · exact len4 (fun _ _ _ _ => rfl) vs h
  · exact (SS_cons (SS_for O0 (SI_list O0 (SE_var O0 (i := 2) rfl)) (TG_name O0 (i := 4) rfl (Nat.le_of_ble_eq_true rfl)) rfl (SS_cons (SS_asg O0 (SE_call O0 s_split_once (Nat.le_of_ble_eq_true rfl) (by kernel_rfl) (SL_cons (SE_var O0 (i := 0) rfl) (SL_cons (SE_var O0 (i := 1) rfl) (SL_cons (SE_call O0 s_mrest (Nat.le_of_ble_eq_true rfl) (by kernel_rfl) (SL_cons (SE_var O0 (i := 4) rfl) (SL_cons (SE_var O0 (i := 0) rfl) (SL_cons (SE_var O0 (i := 3) rfl) SL_nil))) (hd := (by kernel_rfl))) (SL_cons (SE_var O0 (i := 3) rfl) SL_nil)))) (hd := (by kernel_rfl))) (i := 5) rfl (Nat.le_of_ble_eq_true rfl) (by kernel_rfl)) (SS_cons (SS_if (ST_cmp O0 op_isnot (SE_var O0 (i := 5) rfl) SE_none) (SS_cons (SS_ret (SE_var O0 (i := 5) rfl)) SS_nil) SS_nil) SS_nil))) (SS_cons (SS_tupS O0 (SRL_cons (SE.r (SE_var O0 (i := 3) rfl)) (SRL_cons (SE.r SE_none) SRL_nil)) (xs := ["number", "part"]) (tg_cons (i := 6) rfl (Nat.le_of_ble_eq_true rfl) (tg_cons (i := 5) rfl (Nat.le_of_ble_eq_true rfl) tg_nil)) (by decide) (by kernel_rfl) (by kernel_rfl)) (SS_cons (SS_while 5000 (ST_cmp O0 op_is (SE_var O0 (i := 5) rfl) SE_none) (SS_cons (SS_asg O0 (SE_call O0 s_split_once (Nat.le_of_ble_eq_true rfl) (by kernel_rfl) (SL_cons (SE_var O0 (i := 0) rfl) (SL_cons (SE_var O0 (i := 1) rfl) (SL_cons (SE_call O0 s_counted (Nat.le_of_ble_eq_true rfl) (by kernel_rfl) (SL_cons (SE_var O0 (i := 6) rfl) (SL_cons (SE_var O0 (i := 3) rfl) SL_nil)) (hd := (by kernel_rfl))) (SL_cons (SE_var O0 (i := 3) rfl) SL_nil)))) (hd := (by kernel_rfl))) (i := 5) rfl (Nat.le_of_ble_eq_true rfl) (by kernel_rfl)) (SS_cons (SS_asg O0 (SE_bin O0 op_add (SE_var O0 (i := 6) rfl) SE_int) (i := 6) rfl (Nat.le_of_ble_eq_true rfl) (by kernel_rfl)) SS_nil))) (SS_cons (SS_ret (SE_var O0 (i := 5) rfl)) SS_nil))))
noncomputable def m_equal_degree : Fs := (sSeq (sTup true (rCons (rO (oLst (lCons (bindL F_mmonic (lCons (eVar 0) (lCons (eVar 3) lNil))) lNil))) (rCons (rO (oLst lNil)) rNil)) [4, 5]) (sSeq (sWhile 5000 (tOf (bind2 dGt (bindL fLen (lCons (eVarB 4) lNil)) (eC (.int 0)))) (sSeq (sPop 4 6) (sSeq (sIf (tOf (bind2 dEq (bindL F_mdegree (lCons (eVar 6) lNil)) (eVar 1))) (sSeq (sApp 5 (eVar 6)) sNil) (sSeq (sAsg (bindL F_first_split (lCons (eVar 6) (lCons (eVar 1) (lCons (eVar 2) (lCons (eVar 3) lNil))))) (gName 7)) (sSeq (sApp 4 (eVar 7)) (sSeq (sApp 4 (bindL F_mquotient (lCons (eVar 6) (lCons (eVar 7) (lCons (eVar 3) lNil))))) sNil)))) sNil))) (sSeq (sFrz 5 (sRet (eO (oSortK (fun d => F_morder [d]) (eVar 5))))) sNil)))
noncomputable def F_equal_degree : List D → Option D := fBody m_equal_degree ["f", "degree", "choices", "p"] ["f", "degree", "choices", "p", "waiting", "found", "here", "part"]
theorem sf_equal_degree {G : Gx} (O : G.Ok) (hD : ∀ d ∈ theDefs, d ∈ G.defs) (s_morder : SF G 1 "morder" F_morder) (s_mdegree : SF G 1 "mdegree" F_mdegree) (s_mquotient : SF G 4 "mquotient" F_mquotient) (s_first_split : SF G 8 "first_split" F_first_split) (s_mmonic : SF G 3 "mmonic" F_mmonic) : SF G 9 "equal_degree" F_equal_degree := by
  refine SF_def O (hD _ (dr_in (i := 28) (by kernel_rfl))) (pn := ["f", "degree", "choices", "p"]) (names := ["f", "degree", "choices", "p", "waiting", "found", "here", "part"]) (m := m_equal_degree) (by kernel_rfl) rfl (fun pm code doc vs h => ?_) (fun A pm code doc L a O0 => ?_)
  · exact len4 (fun _ _ _ _ => rfl) vs h
  · exact (SS_cons (SS_tupS O0 (SRL_cons (SO.r (SO_list (SL_cons (SE_call O0 s_mmonic (Nat.le_of_ble_eq_true rfl) (by kernel_rfl) (SL_cons (SE_var O0 (i := 0) rfl) (SL_cons (SE_var O0 (i := 3) rfl) SL_nil)) (hd := (by kernel_rfl))) SL_nil))) (SRL_cons (SO.r (SO_list SL_nil)) SRL_nil)) (xs := ["waiting", "found"]) (tg_cons (i := 4) rfl (Nat.le_of_ble_eq_true rfl) (tg_cons (i := 5) rfl (Nat.le_of_ble_eq_true rfl) tg_nil)) (by decide) (by kernel_rfl) (by kernel_rfl)) (SS_cons (SS_while 5000 (ST_cmp O0 op_gt (SE_blt O0 bl_len PyProof.Rows.Boot.«len» (.inl ⟨_, rfl⟩) (by decide) (by kernel_rfl) (SLB_cons (SB_var O0 (i := 4) rfl) SLB_nil)) SE_int) (SS_cons (SS_pop O0 (i := 4) (j := 6) rfl rfl (Nat.le_of_ble_eq_true rfl)) (SS_cons (SS_if (ST_cmp O0 op_eq (SE_call O0 s_mdegree (Nat.le_of_ble_eq_true rfl) (by kernel_rfl) (SL_cons (SE_var O0 (i := 6) rfl) SL_nil) (hd := (by kernel_rfl))) (SE_var O0 (i := 1) rfl)) (SS_cons (SS_append O0 (i := 5) rfl (SE_var O0 (i := 6) rfl) (by kernel_rfl)) SS_nil) (SS_cons (SS_asg O0 (SE_call O0 s_first_split (Nat.le_of_ble_eq_true rfl) (by kernel_rfl) (SL_cons (SE_var O0 (i := 6) rfl) (SL_cons (SE_var O0 (i := 1) rfl) (SL_cons (SE_var O0 (i := 2) rfl) (SL_cons (SE_var O0 (i := 3) rfl) SL_nil)))) (hd := (by kernel_rfl))) (i := 7) rfl (Nat.le_of_ble_eq_true rfl) (by kernel_rfl)) (SS_cons (SS_append O0 (i := 4) rfl (SE_var O0 (i := 7) rfl) (by kernel_rfl)) (SS_cons (SS_append O0 (i := 4) rfl (SE_call O0 s_mquotient (Nat.le_of_ble_eq_true rfl) (by kernel_rfl) (SL_cons (SE_var O0 (i := 6) rfl) (SL_cons (SE_var O0 (i := 7) rfl) (SL_cons (SE_var O0 (i := 3) rfl) SL_nil))) (hd := (by kernel_rfl))) (by kernel_rfl)) SS_nil)))) SS_nil))) (SS_cons (SS_frz' 5 (SS_ret (SO.eo (SO_sortK O0 s_morder (Nat.le_of_ble_eq_true rfl) (by kernel_rfl) (by kernel_rfl) (SE_var O0 (i := 5) rfl) (hd := (by kernel_rfl)))))) SS_nil)))
noncomputable def m_prime_parts : Fs := (sSeq (sAsgO (oLst lNil) 3) (sSeq (sFor (iList (bindL F_distinct_degrees (lCons (eVar 0) (lCons (eVar 2) lNil)))) (gTup [4, 5]) (sSeq (sExt 3 (bindL F_equal_degree (lCons (eVar 4) (lCons (eVar 5) (lCons (eVar 1) (lCons (eVar 2) lNil)))))) sNil)) (sSeq (sFrz 3 (sRet (eO (oSortK (fun d => F_morder [d]) (eVar 3))))) sNil)))
noncomputable def F_prime_parts : List D → Option D := fBody m_prime_parts ["f", "choices", "p"] ["f", "choices", "p", "found", "product", "degree"]
theorem sf_prime_parts {G : Gx} (O : G.Ok) (hD : ∀ d ∈ theDefs, d ∈ G.defs) (s_morder : SF G 1 "morder" F_morder) (s_distinct_degrees : SF G 6 "distinct_degrees" F_distinct_degrees) (s_equal_degree : SF G 9 "equal_degree" F_equal_degree) : SF G 10 "prime_parts" F_prime_parts := by
  refine SF_def O (hD _ (dr_in (i := 31) (by kernel_rfl))) (pn := ["f", "choices", "p"]) (names := ["f", "choices", "p", "found", "product", "degree"]) (m := m_prime_parts) (by kernel_rfl) rfl (fun pm code doc vs h => ?_) (fun A pm code doc L a O0 => ?_)
  · exact len3 (fun _ _ _ => rfl) vs h
  · exact (SS_cons (SS_asgO O0 (SO_list SL_nil) (i := 3) rfl (Nat.le_of_ble_eq_true rfl) (by kernel_rfl)) (SS_cons (SS_for O0 (SI_list O0 (SE_call O0 s_distinct_degrees (Nat.le_of_ble_eq_true rfl) (by kernel_rfl) (SL_cons (SE_var O0 (i := 0) rfl) (SL_cons (SE_var O0 (i := 2) rfl) SL_nil)) (hd := (by kernel_rfl)))) (TG_tup O0 (Elts_cons (i := 4) rfl (Nat.le_of_ble_eq_true rfl) (Elts_cons (i := 5) rfl (Nat.le_of_ble_eq_true rfl) Elts_nil))) rfl (SS_cons (SS_extend O0 (i := 3) rfl (SE_call O0 s_equal_degree (Nat.le_of_ble_eq_true rfl) (by kernel_rfl) (SL_cons (SE_var O0 (i := 4) rfl) (SL_cons (SE_var O0 (i := 5) rfl) (SL_cons (SE_var O0 (i := 1) rfl) (SL_cons (SE_var O0 (i := 2) rfl) SL_nil)))) (hd := (by kernel_rfl))) (by kernel_rfl)) SS_nil)) (SS_cons (SS_frz' 3 (SS_ret (SO.eo (SO_sortK O0 s_morder (Nat.le_of_ble_eq_true rfl) (by kernel_rfl) (by kernel_rfl) (SE_var O0 (i := 3) rfl) (hd := (by kernel_rfl)))))) SS_nil)))
noncomputable def m_factor_order : Fs := (sSeq (sRet (eTup (lCons (bindL F_morder (lCons (bind2 dIdx (eVarB 0) (eC (.int 0))) lNil)) (lCons (bind2 dIdx (eVarB 0) (eC (.int 1))) lNil)))) sNil)
noncomputable def F_factor_order : List D → Option D := fBody m_factor_order ["pair"] ["pair"]
theorem sf_factor_order {G : Gx} (O : G.Ok) (hD : ∀ d ∈ theDefs, d ∈ G.defs) (s_morder : SF G 1 "morder" F_morder) : SF G 2 "factor_order" F_factor_order := by
  refine SF_def O (hD _ (dr_in (i := 33) (by kernel_rfl))) (pn := ["pair"]) (names := ["pair"]) (m := m_factor_order) (by kernel_rfl) rfl (fun pm code doc vs h => ?_) (fun A pm code doc L a O0 => ?_)
  · exact len1 (fun _ => rfl) vs h
  · exact (SS_cons (SS_ret (SE_tuple (SL_cons (SE_call O0 s_morder (Nat.le_of_ble_eq_true rfl) (by kernel_rfl) (SL_cons (SE_idx (SB_var O0 (i := 0) rfl) SE_int) SL_nil) (hd := (by kernel_rfl))) (SL_cons (SE_idx (SB_var O0 (i := 0) rfl) SE_int) SL_nil)))) SS_nil)
noncomputable def m_mfactor : Fs := (sSeq (sAsgO (oLst lNil) 2) (sSeq (sFor (iList (bindL F_square_free_parts (lCons (bindL F_mmonic (lCons (eVar 0) (lCons (eVar 1) lNil))) (lCons (eVar 1) lNil)))) (gTup [3, 4]) (sSeq (sExt 2 (eO (oComp (iList (bindL F_prime_parts (lCons (eVar 3) (lCons (eO (oLst lNil)) (lCons (eVar 1) lNil))))) 1 [4] (gName 0) (fun _ => some true) (kE (eTup (lCons (eVar 0) (lCons (eVar 1) lNil))))))) sNil)) (sSeq (sFrz 2 (sRet (eTup (lCons (bindL F_mlead (lCons (eVar 0) lNil)) (lCons (eO (oSortK (fun d => F_factor_order [d]) (eVar 2))) lNil))))) sNil)))
noncomputable def F_mfactor : List D → Option D := fBody m_mfactor ["f", "p"] ["f", "p", "found", "part", "many"]
theorem sf_mfactor {G : Gx} (O : G.Ok) (hD : ∀ d ∈ theDefs, d ∈ G.defs) (s_mlead : SF G 1 "mlead" F_mlead) (s_factor_order : SF G 2 "factor_order" F_factor_order) (s_mmonic : SF G 3 "mmonic" F_mmonic) (s_square_free_parts : SF G 7 "square_free_parts" F_square_free_parts) (s_prime_parts : SF G 10 "prime_parts" F_prime_parts) : SF G 11 "mfactor" F_mfactor := by
  refine SF_def O (hD _ (dr_in (i := 32) (by kernel_rfl))) (pn := ["f", "p"]) (names := ["f", "p", "found", "part", "many"]) (m := m_mfactor) (by kernel_rfl) rfl (fun pm code doc vs h => ?_) (fun A pm code doc L a O0 => ?_)
  · exact len2 (fun _ _ => rfl) vs h
  · exact (SS_cons (SS_asgO O0 (SO_list SL_nil) (i := 2) rfl (Nat.le_of_ble_eq_true rfl) (by kernel_rfl)) (SS_cons (SS_for O0 (SI_list O0 (SE_call O0 s_square_free_parts (Nat.le_of_ble_eq_true rfl) (by kernel_rfl) (SL_cons (SE_call O0 s_mmonic (Nat.le_of_ble_eq_true rfl) (by kernel_rfl) (SL_cons (SE_var O0 (i := 0) rfl) (SL_cons (SE_var O0 (i := 1) rfl) SL_nil)) (hd := (by kernel_rfl))) (SL_cons (SE_var O0 (i := 1) rfl) SL_nil)) (hd := (by kernel_rfl)))) (TG_tup O0 (Elts_cons (i := 3) rfl (Nat.le_of_ble_eq_true rfl) (Elts_cons (i := 4) rfl (Nat.le_of_ble_eq_true rfl) Elts_nil))) rfl (SS_cons (SS_extend O0 (i := 2) rfl (SO.eo (SO_comp O0 (es := _) (cn := ["f", "p", "found", "part", "many"]) (names := ["one", "many"]) (ro := 1) (fi := [4]) rfl rfl (by kernel_rfl) (SI_list O0 (SE_call O0 s_prime_parts (Nat.le_of_ble_eq_true rfl) (by kernel_rfl) (SL_cons (SE_var O0 (i := 3) rfl) (SL_cons (SO.eo (SO_list SL_nil)) (SL_cons (SE_var O0 (i := 1) rfl) SL_nil))) (hd := (by kernel_rfl)))) (fun _ O1 => (LB_last rfl (TG_name O1 (i := 0) rfl (Nat.le_of_ble_eq_true rfl)) ST_t0 (SE_tuple (SL_cons (SE_var O1 (i := 0) rfl) (SL_cons (SE_var O1 (i := 1) rfl) SL_nil))) rfl rfl)))) (by kernel_rfl)) SS_nil)) (SS_cons (SS_frz' 2 (SS_ret (SE_tuple (SL_cons (SE_call O0 s_mlead (Nat.le_of_ble_eq_true rfl) (by kernel_rfl) (SL_cons (SE_var O0 (i := 0) rfl) SL_nil) (hd := (by kernel_rfl))) (SL_cons (SO.eo (SO_sortK O0 s_factor_order (Nat.le_of_ble_eq_true rfl) (by kernel_rfl) (by kernel_rfl) (SE_var O0 (i := 2) rfl) (hd := (by kernel_rfl)))) SL_nil))))) SS_nil)))
noncomputable def m_is_prime_mod : Fs := (sSeq (sAsg (bindL F_mdegree (lCons (eVar 0) lNil)) (gName 2)) (sSeq (sIf (tOf (bind2 dLt (eVar 2) (eC (.int 1)))) (sSeq (sRet (eC (.bool false))) sNil) sNil) (sSeq (sFor (iList (bindL F_prime_factors (lCons (eVar 2) lNil))) (gTup [3, 4]) (sSeq (sAsg (bindL F_mpower_mod (lCons (eO (oLst (lCons (eC (.int 0)) (lCons (eC (.int 1)) lNil)))) (lCons (bind2 dPow (eVar 1) (bind2 dDiv (eVar 2) (eVar 3))) (lCons (eVar 0) (lCons (eVar 1) lNil))))) (gName 5)) (sSeq (sIf (tOf (bind2 dNe (bindL F_mdegree (lCons (bindL F_mgcd (lCons (bindL F_msub (lCons (eVar 5) (lCons (bindL F_mrest (lCons (eO (oLst (lCons (eC (.int 0)) (lCons (eC (.int 1)) lNil)))) (lCons (eVar 0) (lCons (eVar 1) lNil)))) (lCons (eVar 1) lNil)))) (lCons (eVar 0) (lCons (eVar 1) lNil)))) lNil)) (eC (.int 0)))) (sSeq (sRet (eC (.bool false))) sNil) sNil) sNil))) (sSeq (sRet (bind2 dEq (bindL F_mpower_mod (lCons (eO (oLst (lCons (eC (.int 0)) (lCons (eC (.int 1)) lNil)))) (lCons (bind2 dPow (eVar 1) (eVar 2)) (lCons (eVar 0) (lCons (eVar 1) lNil))))) (bindL F_mrest (lCons (eO (oLst (lCons (eC (.int 0)) (lCons (eC (.int 1)) lNil)))) (lCons (eVar 0) (lCons (eVar 1) lNil)))))) sNil))))
noncomputable def F_is_prime_mod : List D → Option D := fBody m_is_prime_mod ["f", "p"] ["f", "p", "many", "divisor", "times", "power"]
theorem sf_is_prime_mod {G : Gx} (O : G.Ok) (hD : ∀ d ∈ theDefs, d ∈ G.defs) (s_mpower_mod : SF G 5 "mpower_mod" F_mpower_mod) (s_mrest : SF G 4 "mrest" F_mrest) (s_prime_factors : SF G 2 "prime_factors" F_prime_factors) (s_msub : SF G 3 "msub" F_msub) (s_mgcd : SF G 5 "mgcd" F_mgcd) (s_mdegree : SF G 1 "mdegree" F_mdegree) : SF G 6 "is_prime_mod" F_is_prime_mod := by
  refine SF_def O (hD _ (dr_in (i := 34) (by kernel_rfl))) (pn := ["f", "p"]) (names := ["f", "p", "many", "divisor", "times", "power"]) (m := m_is_prime_mod) (by kernel_rfl) rfl (fun pm code doc vs h => ?_) (fun A pm code doc L a O0 => ?_)
  · exact len2 (fun _ _ => rfl) vs h
  · exact (SS_cons (SS_asg O0 (SE_call O0 s_mdegree (Nat.le_of_ble_eq_true rfl) (by kernel_rfl) (SL_cons (SE_var O0 (i := 0) rfl) SL_nil) (hd := (by kernel_rfl))) (i := 2) rfl (Nat.le_of_ble_eq_true rfl) (by kernel_rfl)) (SS_cons (SS_if (ST_cmp O0 op_lt (SE_var O0 (i := 2) rfl) SE_int) (SS_cons (SS_ret SE_bool) SS_nil) SS_nil) (SS_cons (SS_for O0 (SI_list O0 (SE_call O0 s_prime_factors (Nat.le_of_ble_eq_true rfl) (by kernel_rfl) (SL_cons (SE_var O0 (i := 2) rfl) SL_nil) (hd := (by kernel_rfl)))) (TG_tup O0 (Elts_cons (i := 3) rfl (Nat.le_of_ble_eq_true rfl) (Elts_cons (i := 4) rfl (Nat.le_of_ble_eq_true rfl) Elts_nil))) rfl (SS_cons (SS_asg O0 (SE_call O0 s_mpower_mod (Nat.le_of_ble_eq_true rfl) (by kernel_rfl) (SL_cons (SO.eo (SO_list (SL_cons SE_int (SL_cons SE_int SL_nil)))) (SL_cons (SE_bin O0 op_pow (SE_var O0 (i := 1) rfl) (SE_bin O0 op_div (SE_var O0 (i := 2) rfl) (SE_var O0 (i := 3) rfl))) (SL_cons (SE_var O0 (i := 0) rfl) (SL_cons (SE_var O0 (i := 1) rfl) SL_nil)))) (hd := (by kernel_rfl))) (i := 5) rfl (Nat.le_of_ble_eq_true rfl) (by kernel_rfl)) (SS_cons (SS_if (ST_cmp O0 op_ne (SE_call O0 s_mdegree (Nat.le_of_ble_eq_true rfl) (by kernel_rfl) (SL_cons (SE_call O0 s_mgcd (Nat.le_of_ble_eq_true rfl) (by kernel_rfl) (SL_cons (SE_call O0 s_msub (Nat.le_of_ble_eq_true rfl) (by kernel_rfl) (SL_cons (SE_var O0 (i := 5) rfl) (SL_cons (SE_call O0 s_mrest (Nat.le_of_ble_eq_true rfl) (by kernel_rfl) (SL_cons (SO.eo (SO_list (SL_cons SE_int (SL_cons SE_int SL_nil)))) (SL_cons (SE_var O0 (i := 0) rfl) (SL_cons (SE_var O0 (i := 1) rfl) SL_nil))) (hd := (by kernel_rfl))) (SL_cons (SE_var O0 (i := 1) rfl) SL_nil))) (hd := (by kernel_rfl))) (SL_cons (SE_var O0 (i := 0) rfl) (SL_cons (SE_var O0 (i := 1) rfl) SL_nil))) (hd := (by kernel_rfl))) SL_nil) (hd := (by kernel_rfl))) SE_int) (SS_cons (SS_ret SE_bool) SS_nil) SS_nil) SS_nil))) (SS_cons (SS_ret (SE_cmp O0 op_eq (SE_call O0 s_mpower_mod (Nat.le_of_ble_eq_true rfl) (by kernel_rfl) (SL_cons (SO.eo (SO_list (SL_cons SE_int (SL_cons SE_int SL_nil)))) (SL_cons (SE_bin O0 op_pow (SE_var O0 (i := 1) rfl) (SE_var O0 (i := 2) rfl)) (SL_cons (SE_var O0 (i := 0) rfl) (SL_cons (SE_var O0 (i := 1) rfl) SL_nil)))) (hd := (by kernel_rfl))) (SE_call O0 s_mrest (Nat.le_of_ble_eq_true rfl) (by kernel_rfl) (SL_cons (SO.eo (SO_list (SL_cons SE_int (SL_cons SE_int SL_nil)))) (SL_cons (SE_var O0 (i := 0) rfl) (SL_cons (SE_var O0 (i := 1) rfl) SL_nil))) (hd := (by kernel_rfl))))) SS_nil))))
noncomputable def m_berlekamp_matrix : Fs := (sSeq (sAsg (bindL F_mdegree (lCons (eVar 0) lNil)) (gName 2)) (sSeq (sTup true (rCons (rV (bindL F_mpower_mod (lCons (eO (oLst (lCons (eC (.int 0)) (lCons (eC (.int 1)) lNil)))) (lCons (eVar 1) (lCons (eVar 0) (lCons (eVar 1) lNil)))))) (rCons (rV (bindL F_mrest (lCons (eO (oLst (lCons (eC (.int 1)) lNil))) (lCons (eVar 0) (lCons (eVar 1) lNil))))) (rCons (rO (oLst lNil)) rNil))) [3, 4, 5]) (sSeq (sFor (bindLO fRange (lCons (eVar 2) lNil)) (gName 6) (sSeq (sAsgO (oCat (eVarB 4) (eO (oRep (eO (oLst (lCons (eC (.int 0)) lNil))) (bind2 dSub (eVar 2) (bindL fLen (lCons (eVarB 4) lNil)))))) 7) (sSeq (sSet 7 (eVar 6) (bind2 dMod (bind2 dSub (bind2 dIdx (eVarB 7) (eVar 6)) (eC (.int 1))) (eVar 1))) (sSeq (sFrz 7 (sApp 5 (eVar 7))) (sSeq (sAsg (bindL F_mrest (lCons (bindL F_mmul (lCons (eVar 4) (lCons (eVar 3) (lCons (eVar 1) lNil)))) (lCons (eVar 0) (lCons (eVar 1) lNil)))) (gName 4)) sNil))))) (sSeq (sFrz 5 (sRet (eVar 5))) sNil))))
noncomputable def F_berlekamp_matrix : List D → Option D := fBody m_berlekamp_matrix ["f", "p"] ["f", "p", "many", "step", "power", "rows", "at", "row"]
theorem sf_berlekamp_matrix {G : Gx} (O : G.Ok) (hD : ∀ d ∈ theDefs, d ∈ G.defs) (s_mmul : SF G 2 "mmul" F_mmul) (s_mrest : SF G 4 "mrest" F_mrest) (s_mpower_mod : SF G 5 "mpower_mod" F_mpower_mod) (s_mdegree : SF G 1 "mdegree" F_mdegree) : SF G 6 "berlekamp_matrix" F_berlekamp_matrix := by
  refine SF_def O (hD _ (dr_in (i := 35) (by kernel_rfl))) (pn := ["f", "p"]) (names := ["f", "p", "many", "step", "power", "rows", "at", "row"]) (m := m_berlekamp_matrix) (by kernel_rfl) rfl (fun pm code doc vs h => ?_) (fun A pm code doc L a O0 => ?_)
  · exact len2 (fun _ _ => rfl) vs h
  · exact (SS_cons (SS_asg O0 (SE_call O0 s_mdegree (Nat.le_of_ble_eq_true rfl) (by kernel_rfl) (SL_cons (SE_var O0 (i := 0) rfl) SL_nil) (hd := (by kernel_rfl))) (i := 2) rfl (Nat.le_of_ble_eq_true rfl) (by kernel_rfl)) (SS_cons (SS_tupS O0 (SRL_cons (SE.r (SE_call O0 s_mpower_mod (Nat.le_of_ble_eq_true rfl) (by kernel_rfl) (SL_cons (SO.eo (SO_list (SL_cons SE_int (SL_cons SE_int SL_nil)))) (SL_cons (SE_var O0 (i := 1) rfl) (SL_cons (SE_var O0 (i := 0) rfl) (SL_cons (SE_var O0 (i := 1) rfl) SL_nil)))) (hd := (by kernel_rfl)))) (SRL_cons (SE.r (SE_call O0 s_mrest (Nat.le_of_ble_eq_true rfl) (by kernel_rfl) (SL_cons (SO.eo (SO_list (SL_cons SE_int SL_nil))) (SL_cons (SE_var O0 (i := 0) rfl) (SL_cons (SE_var O0 (i := 1) rfl) SL_nil))) (hd := (by kernel_rfl)))) (SRL_cons (SO.r (SO_list SL_nil)) SRL_nil))) (xs := ["step", "power", "rows"]) (tg_cons (i := 3) rfl (Nat.le_of_ble_eq_true rfl) (tg_cons (i := 4) rfl (Nat.le_of_ble_eq_true rfl) (tg_cons (i := 5) rfl (Nat.le_of_ble_eq_true rfl) tg_nil))) (by decide) (by kernel_rfl) (by kernel_rfl)) (SS_cons (SS_for O0 (SI_blt O0 bl_range PyProof.Rows.Boot.«range» (.inr ⟨_, rfl⟩) (by decide) (by kernel_rfl) (SL_cons (SE_var O0 (i := 2) rfl) SL_nil)) (TG_name O0 (i := 6) rfl (Nat.le_of_ble_eq_true rfl)) rfl (SS_cons (SS_asgO O0 (SO_cat (SB_var O0 (i := 4) rfl) (SE.b (SO.eo (SO_rep (SE.b (SO.eo (SO_list (SL_cons SE_int SL_nil)))) (SE_bin O0 op_sub (SE_var O0 (i := 2) rfl) (SE_blt O0 bl_len PyProof.Rows.Boot.«len» (.inl ⟨_, rfl⟩) (by decide) (by kernel_rfl) (SLB_cons (SB_var O0 (i := 4) rfl) SLB_nil))))))) (i := 7) rfl (Nat.le_of_ble_eq_true rfl) (by kernel_rfl)) (SS_cons (SS_set O0 (i := 7) rfl (SE_var O0 (i := 6) rfl) (SE_bin O0 op_mod (SE_bin O0 op_sub (SE_idx (SB_var O0 (i := 7) rfl) (SE_var O0 (i := 6) rfl)) SE_int) (SE_var O0 (i := 1) rfl)) (by kernel_rfl)) (SS_cons (SS_frz' 7 (SS_append O0 (i := 5) rfl (SE_var O0 (i := 7) rfl) (by kernel_rfl))) (SS_cons (SS_asg O0 (SE_call O0 s_mrest (Nat.le_of_ble_eq_true rfl) (by kernel_rfl) (SL_cons (SE_call O0 s_mmul (Nat.le_of_ble_eq_true rfl) (by kernel_rfl) (SL_cons (SE_var O0 (i := 4) rfl) (SL_cons (SE_var O0 (i := 3) rfl) (SL_cons (SE_var O0 (i := 1) rfl) SL_nil))) (hd := (by kernel_rfl))) (SL_cons (SE_var O0 (i := 0) rfl) (SL_cons (SE_var O0 (i := 1) rfl) SL_nil))) (hd := (by kernel_rfl))) (i := 4) rfl (Nat.le_of_ble_eq_true rfl) (by kernel_rfl)) SS_nil))))) (SS_cons (SS_frz' 5 (SS_ret (SE_var O0 (i := 5) rfl))) SS_nil))))
noncomputable def m_pivot_row : Fs := (sSeq (sFor (bindLO fRange (lCons (eVar 1) (lCons (bindL fLen (lCons (eVarB 0) lNil)) lNil))) (gName 3) (sSeq (sIf (tOf (bind2 dNe (bind2 dIdx (bind2 dIdx (eVarB 0) (eVar 3)) (eVar 2)) (eC (.int 0)))) (sSeq (sRet (eVar 3)) sNil) sNil) sNil)) (sSeq (sRet (bind1 dNeg (eC (.int 1)))) sNil))
noncomputable def F_pivot_row : List D → Option D := fBody m_pivot_row ["work", "done", "column"] ["work", "done", "column", "at"]
theorem sf_pivot_row {G : Gx} (O : G.Ok) (hD : ∀ d ∈ theDefs, d ∈ G.defs) : SF G 1 "pivot_row" F_pivot_row := by
  refine SF_def O (hD _ (dr_in (i := 37) (by kernel_rfl))) (pn := ["work", "done", "column"]) (names := ["work", "done", "column", "at"]) (m := m_pivot_row) (by kernel_rfl) rfl (fun pm code doc vs h => ?_) (fun A pm code doc L a O0 => ?_)
  · exact len3 (fun _ _ _ => rfl) vs h
  · exact (SS_cons (SS_for O0 (SI_blt O0 bl_range PyProof.Rows.Boot.«range» (.inr ⟨_, rfl⟩) (by decide) (by kernel_rfl) (SL_cons (SE_var O0 (i := 1) rfl) (SL_cons (SE_blt O0 bl_len PyProof.Rows.Boot.«len» (.inl ⟨_, rfl⟩) (by decide) (by kernel_rfl) (SLB_cons (SB_var O0 (i := 0) rfl) SLB_nil)) SL_nil))) (TG_name O0 (i := 3) rfl (Nat.le_of_ble_eq_true rfl)) rfl (SS_cons (SS_if (ST_cmp O0 op_ne (SE_idx (SE.b (SE_idx (SB_var O0 (i := 0) rfl) (SE_var O0 (i := 3) rfl))) (SE_var O0 (i := 2) rfl)) SE_int) (SS_cons (SS_ret (SE_var O0 (i := 3) rfl)) SS_nil) SS_nil) SS_nil)) (SS_cons (SS_ret (SE_neg SE_int)) SS_nil))
noncomputable def m_clear_below : Fs := (sSeq (sAsg (bindL F_inverse_mod (lCons (bind2 dIdx (bind2 dIdx (eVarB 6) (eVar 0)) (eVar 1)) (lCons (eVar 2) lNil))) (gName 3)) (sSeq (sFor (bindLO fRange (lCons (bind2 dAdd (eVar 0) (eC (.int 1))) (lCons (bindL fLen (lCons (eVarB 6) lNil)) lNil))) (gName 4) (sSeq (sAsg (bind2 dMod (bind2 dMul (bind2 dIdx (bind2 dIdx (eVarB 6) (eVar 4)) (eVar 1)) (eVar 3)) (eVar 2)) (gName 5)) (sSeq (sIf (tOf (bind2 dNe (eVar 5) (eC (.int 0)))) (sSeq (sSet 6 (eVar 4) (eO (oComp (bindLO fZip (lCons (bind2 dIdx (eVarB 6) (eVar 4)) (lCons (bind2 dIdx (eVarB 6) (eVar 0)) lNil))) 2 [5, 2] (gTup [0, 1]) (fun _ => some true) (kE (bind2 dMod (bind2 dSub (eVar 0) (bind2 dMul (eVar 2) (eVar 1))) (eVar 3)))))) sNil) sNil) sNil))) sNil))
noncomputable def F_clear_below : List D → List D → Option (List D) := mBody m_clear_below ["done", "column", "p"] ["done", "column", "p", "turn", "at", "number"]
theorem sf_clear_below {G : Gx} (O : G.Ok) (hD : ∀ d ∈ theDefs, d ∈ G.defs) (s_inverse_mod : SF G 2 "inverse_mod" F_inverse_mod) : SFM G 3 "clear_below" F_clear_below := by
  refine SFM_def O (hD _ (dr_in (i := 38) (by kernel_rfl))) (p0 := "work") (pn := ["done", "column", "p"]) (names := ["done", "column", "p", "turn", "at", "number"]) (m := m_clear_below) (by kernel_rfl) rfl (fun pm code doc vs h => ?_) (fun A pm code doc L a fx O0 => ?_)
  · exact len4 (fun _ _ _ _ => rfl) vs h
  · exact (SS_cons (SS_asg O0 (SE_call O0 s_inverse_mod (Nat.le_of_ble_eq_true rfl) (by kernel_rfl) (SL_cons (SE_idx (SE.b (SE_idx (SB_var O0 (i := 6) rfl) (SE_var O0 (i := 0) rfl))) (SE_var O0 (i := 1) rfl)) (SL_cons (SE_var O0 (i := 2) rfl) SL_nil)) (hd := (by kernel_rfl))) (i := 3) rfl (Nat.le_of_ble_eq_true rfl) (by kernel_rfl)) (SS_cons (SS_for O0 (SI_blt O0 bl_range PyProof.Rows.Boot.«range» (.inr ⟨_, rfl⟩) (by decide) (by kernel_rfl) (SL_cons (SE_bin O0 op_add (SE_var O0 (i := 0) rfl) SE_int) (SL_cons (SE_blt O0 bl_len PyProof.Rows.Boot.«len» (.inl ⟨_, rfl⟩) (by decide) (by kernel_rfl) (SLB_cons (SB_var O0 (i := 6) rfl) SLB_nil)) SL_nil))) (TG_name O0 (i := 4) rfl (Nat.le_of_ble_eq_true rfl)) rfl (SS_cons (SS_asg O0 (SE_bin O0 op_mod (SE_bin O0 op_mul (SE_idx (SE.b (SE_idx (SB_var O0 (i := 6) rfl) (SE_var O0 (i := 4) rfl))) (SE_var O0 (i := 1) rfl)) (SE_var O0 (i := 3) rfl)) (SE_var O0 (i := 2) rfl)) (i := 5) rfl (Nat.le_of_ble_eq_true rfl) (by kernel_rfl)) (SS_cons (SS_if (ST_cmp O0 op_ne (SE_var O0 (i := 5) rfl) SE_int) (SS_cons (SS_set O0 (i := 6) rfl (SE_var O0 (i := 4) rfl) (SO.eo (SO_comp O0 (es := _) (cn := ["done", "column", "p", "turn", "at", "number", "work"]) (names := ["one", "other", "number", "p"]) (ro := 2) (fi := [5, 2]) rfl rfl (by kernel_rfl) (SI_blt O0 bl_zip PyProof.Rows.Boot.«zip» (.inr ⟨_, rfl⟩) (by decide) (by kernel_rfl) (SL_cons (SE_idx (SB_var O0 (i := 6) rfl) (SE_var O0 (i := 4) rfl)) (SL_cons (SE_idx (SB_var O0 (i := 6) rfl) (SE_var O0 (i := 0) rfl)) SL_nil))) (fun _ O1 => (LB_last rfl (TG_tup O1 (Elts_cons (i := 0) rfl (Nat.le_of_ble_eq_true rfl) (Elts_cons (i := 1) rfl (Nat.le_of_ble_eq_true rfl) Elts_nil))) ST_t0 (SE_bin O1 op_mod (SE_bin O1 op_sub (SE_var O1 (i := 0) rfl) (SE_bin O1 op_mul (SE_var O1 (i := 2) rfl) (SE_var O1 (i := 1) rfl))) (SE_var O1 (i := 3) rfl)) rfl rfl)))) (by kernel_rfl)) SS_nil) SS_nil) SS_nil))) SS_nil))
noncomputable def m_null_space : Fs := (sSeq (sAsg (bindL fLen (lCons (eVarB 0) lNil)) (gName 2)) (sSeq (sAsgO (oComp (bindLO fEnum (lCons (eVar 0) lNil)) 2 [2] (gTup [0, 1]) (fun _ => some true) (kE (eO (oCat (eO (bindLO fList (lCons (eVarB 1) lNil))) (eO (oComp (bindLO fRange (lCons (eVar 2) lNil)) 1 [0] (gName 0) (fun _ => some true) (kE (bindL fInt (lCons (bind2 dEq (eVar 0) (eVar 1)) lNil))))))))) 3) (sSeq (sTup false (rCons (rV (eIf (tOf (bind2 dGt (eVar 2) (eC (.int 0)))) (bindL fLen (lCons (bind2 dIdx (eVarB 0) (eC (.int 0))) lNil)) (eC (.int 0)))) (rCons (rV (eC (.int 0))) rNil)) [4, 5]) (sSeq (sFor (bindLO fRange (lCons (eVar 4) lNil)) (gName 6) (sSeq (sAsg (bindF F_pivot_row (lCons (eVarB 3) (lCons (eVarB 5) (lCons (eVarB 6) lNil)))) (gName 7)) (sSeq (sIf (tOf (bind2 dGe (eVar 7) (eC (.int 0)))) (sSeq (sSwap 3 (eVar 5) (eVar 7) (bind2 dIdx (eVarB 3) (eVar 7)) (bind2 dIdx (eVarB 3) (eVar 5))) (sSeq (sCallM 3 (lCons (eVar 5) (lCons (eVar 6) (lCons (eVar 1) lNil))) F_clear_below) (sSeq (sAsg (bind2 dAdd (eVar 5) (eC (.int 1))) (gName 5)) sNil))) sNil) sNil))) (sSeq (sRet (eO (oComp (iList (eO (oSl (eVarB 3) (some (eVar 5)) none))) 1 [4] (gName 0) (fun _ => some true) (kE (eO (oSl (eVarB 0) (some (eVar 1)) none)))))) sNil)))))
noncomputable def F_null_space : List D → Option D := fBody m_null_space ["rows", "p"] ["rows", "p", "many", "work", "wide", "done", "column", "pivot"]
theorem sf_null_space {G : Gx} (O : G.Ok) (hD : ∀ d ∈ theDefs, d ∈ G.defs) (s_clear_below : SFM G 3 "clear_below" F_clear_below) (s_pivot_row : SF G 1 "pivot_row" F_pivot_row) : SF G 4 "null_space" F_null_space := by
  refine SF_def O (hD _ (dr_in (i := 36) (by kernel_rfl))) (pn := ["rows", "p"]) (names := ["rows", "p", "many", "work", "wide", "done", "column", "pivot"]) (m := m_null_space) (by kernel_rfl) rfl (fun pm code doc vs h => ?_) (fun A pm code doc L a O0 => ?_)
  · exact len2 (fun _ _ => rfl) vs h
  · exact (SS_cons (SS_asg O0 (SE_blt O0 bl_len PyProof.Rows.Boot.«len» (.inl ⟨_, rfl⟩) (by decide) (by kernel_rfl) (SLB_cons (SB_var O0 (i := 0) rfl) SLB_nil)) (i := 2) rfl (Nat.le_of_ble_eq_true rfl) (by kernel_rfl)) (SS_cons (SS_asgComp O0 (i := 3) (es := _) (cn := ["rows", "p", "many", "work", "wide", "done", "column", "pivot"]) (names := ["at", "row", "many"]) (ro := 2) (fi := [2]) rfl (Nat.le_of_ble_eq_true rfl) rfl rfl (by kernel_rfl) (SI_blt O0 bl_enum PyProof.Rows.Boot.«enumerate» (.inr ⟨_, rfl⟩) (by decide) (by kernel_rfl) (SL_cons (SE_var O0 (i := 0) rfl) SL_nil)) (fun _ O1 => (LB_last rfl (TG_tup O1 (Elts_cons (i := 0) rfl (Nat.le_of_ble_eq_true rfl) (Elts_cons (i := 1) rfl (Nat.le_of_ble_eq_true rfl) Elts_nil))) ST_t0 (SO.eo (SO_cat (SE.b (SO.eo (SO_blt O1 bl_list PyProof.Rows.Boot.«list» (.inr ⟨_, rfl⟩) (by decide) (by kernel_rfl) (SLB_cons (SB_var O1 (i := 1) rfl) SLB_nil)))) (SE.b (SO.eo (SO_comp O1 (es := _) (cn := ["at", "row", "many"]) (names := ["spot", "at"]) (ro := 1) (fi := [0]) rfl rfl (by kernel_rfl) (SI_blt O1 bl_range PyProof.Rows.Boot.«range» (.inr ⟨_, rfl⟩) (by decide) (by kernel_rfl) (SL_cons (SE_var O1 (i := 2) rfl) SL_nil)) (fun _ O2 => (LB_last rfl (TG_name O2 (i := 0) rfl (Nat.le_of_ble_eq_true rfl)) ST_t0 (SE_bltV O2 bl_int PyProof.Rows.Boot.«int» (.inr ⟨_, rfl⟩) (by decide) (by kernel_rfl) (SL_cons (SE_cmp O2 op_eq (SE_var O2 (i := 0) rfl) (SE_var O2 (i := 1) rfl)) SL_nil)) rfl rfl))))))) rfl rfl)) (by kernel_rfl)) (SS_cons (SS_tup O0 (SRL_cons (SE.r (SE_if (ST_cmp O0 op_gt (SE_var O0 (i := 2) rfl) SE_int) (SE_blt O0 bl_len PyProof.Rows.Boot.«len» (.inl ⟨_, rfl⟩) (by decide) (by kernel_rfl) (SLB_cons (SE.b (SE_idx (SB_var O0 (i := 0) rfl) SE_int)) SLB_nil)) SE_int)) (SRL_cons (SE.r SE_int) SRL_nil)) (Elts_cons (i := 4) rfl (Nat.le_of_ble_eq_true rfl) (Elts_cons (i := 5) rfl (Nat.le_of_ble_eq_true rfl) Elts_nil)) (by decide) (by kernel_rfl) (by kernel_rfl)) (SS_cons (SS_for O0 (SI_blt O0 bl_range PyProof.Rows.Boot.«range» (.inr ⟨_, rfl⟩) (by decide) (by kernel_rfl) (SL_cons (SE_var O0 (i := 4) rfl) SL_nil)) (TG_name O0 (i := 6) rfl (Nat.le_of_ble_eq_true rfl)) rfl (SS_cons (SS_asg O0 (SE_callB O0 s_pivot_row (Nat.le_of_ble_eq_true rfl) (by kernel_rfl) (SLB_cons (SB_var O0 (i := 3) rfl) (SLB_cons (SB_var O0 (i := 5) rfl) (SLB_cons (SB_var O0 (i := 6) rfl) SLB_nil)))) (i := 7) rfl (Nat.le_of_ble_eq_true rfl) (by kernel_rfl)) (SS_cons (SS_if (ST_cmp O0 op_ge (SE_var O0 (i := 7) rfl) SE_int) (SS_cons (SS_swap O0 (i := 3) rfl (SE_var O0 (i := 5) rfl) (SE_var O0 (i := 7) rfl) (SL_cons (SE_idx (SB_var O0 (i := 3) rfl) (SE_var O0 (i := 7) rfl)) (SL_cons (SE_idx (SB_var O0 (i := 3) rfl) (SE_var O0 (i := 5) rfl)) SL_nil)) (by kernel_rfl) (by kernel_rfl)) (SS_cons (SS_callM O0 (i := 3) s_clear_below (Nat.le_of_ble_eq_true rfl) (by kernel_rfl) rfl (SL_cons (SE_var O0 (i := 5) rfl) (SL_cons (SE_var O0 (i := 6) rfl) (SL_cons (SE_var O0 (i := 1) rfl) SL_nil))) (by kernel_rfl) (hd := (by kernel_rfl))) (SS_cons (SS_asg O0 (SE_bin O0 op_add (SE_var O0 (i := 5) rfl) SE_int) (i := 5) rfl (Nat.le_of_ble_eq_true rfl) (by kernel_rfl)) SS_nil))) SS_nil) SS_nil))) (SS_cons (SS_ret (SO.eo (SO_comp O0 (es := _) (cn := ["rows", "p", "many", "work", "wide", "done", "column", "pivot"]) (names := ["row", "wide"]) (ro := 1) (fi := [4]) rfl rfl (by kernel_rfl) (SI_list O0 (SO.eo (SO_from (SB_var O0 (i := 3) rfl) (SE_var O0 (i := 5) rfl)))) (fun _ O1 => (LB_last rfl (TG_name O1 (i := 0) rfl (Nat.le_of_ble_eq_true rfl)) ST_t0 (SO.eo (SO_from (SB_var O1 (i := 0) rfl) (SE_var O1 (i := 1) rfl))) rfl rfl))))) SS_nil)))))
noncomputable def m_count_factors : Fs := (sSeq (sRet (bindL fLen (lCons (bindL F_null_space (lCons (bindL F_berlekamp_matrix (lCons (eVar 0) (lCons (eVar 1) lNil))) (lCons (eVar 1) lNil))) lNil))) sNil)
noncomputable def F_count_factors : List D → Option D := fBody m_count_factors ["f", "p"] ["f", "p"]
theorem sf_count_factors {G : Gx} (O : G.Ok) (hD : ∀ d ∈ theDefs, d ∈ G.defs) (s_berlekamp_matrix : SF G 6 "berlekamp_matrix" F_berlekamp_matrix) (s_null_space : SF G 4 "null_space" F_null_space) : SF G 7 "count_factors" F_count_factors := by
  refine SF_def O (hD _ (dr_in (i := 39) (by kernel_rfl))) (pn := ["f", "p"]) (names := ["f", "p"]) (m := m_count_factors) (by kernel_rfl) rfl (fun pm code doc vs h => ?_) (fun A pm code doc L a O0 => ?_)
  · exact len2 (fun _ _ => rfl) vs h
  · exact (SS_cons (SS_ret (SE_blt O0 bl_len PyProof.Rows.Boot.«len» (.inl ⟨_, rfl⟩) (by decide) (by kernel_rfl) (SLB_cons (SE.b (SE_call O0 s_null_space (Nat.le_of_ble_eq_true rfl) (by kernel_rfl) (SL_cons (SE_call O0 s_berlekamp_matrix (Nat.le_of_ble_eq_true rfl) (by kernel_rfl) (SL_cons (SE_var O0 (i := 0) rfl) (SL_cons (SE_var O0 (i := 1) rfl) SL_nil)) (hd := (by kernel_rfl))) (SL_cons (SE_var O0 (i := 1) rfl) SL_nil)) (hd := (by kernel_rfl)))) SLB_nil))) SS_nil)
noncomputable def m_gf_size : Fs := (sSeq (sRet (bind2 dPow (eVar 1) (bindL F_mdegree (lCons (eVar 0) lNil)))) sNil)
noncomputable def F_gf_size : List D → Option D := fBody m_gf_size ["m", "p"] ["m", "p"]
theorem sf_gf_size {G : Gx} (O : G.Ok) (hD : ∀ d ∈ theDefs, d ∈ G.defs) (s_mdegree : SF G 1 "mdegree" F_mdegree) : SF G 2 "gf_size" F_gf_size := by
  refine SF_def O (hD _ (dr_in (i := 40) (by kernel_rfl))) (pn := ["m", "p"]) (names := ["m", "p"]) (m := m_gf_size) (by kernel_rfl) rfl (fun pm code doc vs h => ?_) (fun A pm code doc L a O0 => ?_)
  · exact len2 (fun _ _ => rfl) vs h
  · exact (SS_cons (SS_ret (SE_bin O0 op_pow (SE_var O0 (i := 1) rfl) (SE_call O0 s_mdegree (Nat.le_of_ble_eq_true rfl) (by kernel_rfl) (SL_cons (SE_var O0 (i := 0) rfl) SL_nil) (hd := (by kernel_rfl))))) SS_nil)
noncomputable def m_gf_things : Fs := (sSeq (sRet (eO (oComp (bindLO fRange (lCons (bindL F_gf_size (lCons (eVar 0) (lCons (eVar 1) lNil))) lNil)) 1 [1] (gName 0) (fun _ => some true) (kE (bindL F_counted (lCons (eVar 0) (lCons (eVar 1) lNil))))))) sNil)
noncomputable def F_gf_things : List D → Option D := fBody m_gf_things ["m", "p"] ["m", "p"]
theorem sf_gf_things {G : Gx} (O : G.Ok) (hD : ∀ d ∈ theDefs, d ∈ G.defs) (s_gf_size : SF G 2 "gf_size" F_gf_size) (s_counted : SF G 2 "counted" F_counted) : SF G 3 "gf_things" F_gf_things := by
  refine SF_def O (hD _ (dr_in (i := 41) (by kernel_rfl))) (pn := ["m", "p"]) (names := ["m", "p"]) (m := m_gf_things) (by kernel_rfl) rfl (fun pm code doc vs h => ?_) (fun A pm code doc L a O0 => ?_)
  · exact len2 (fun _ _ => rfl) vs h
  · exact (SS_cons (SS_ret (SO.eo (SO_comp O0 (es := _) (cn := ["m", "p"]) (names := ["number", "p"]) (ro := 1) (fi := [1]) rfl rfl (by kernel_rfl) (SI_blt O0 bl_range PyProof.Rows.Boot.«range» (.inr ⟨_, rfl⟩) (by decide) (by kernel_rfl) (SL_cons (SE_call O0 s_gf_size (Nat.le_of_ble_eq_true rfl) (by kernel_rfl) (SL_cons (SE_var O0 (i := 0) rfl) (SL_cons (SE_var O0 (i := 1) rfl) SL_nil)) (hd := (by kernel_rfl))) SL_nil)) (fun _ O1 => (LB_last rfl (TG_name O1 (i := 0) rfl (Nat.le_of_ble_eq_true rfl)) ST_t0 (SE_call O1 s_counted (Nat.le_of_ble_eq_true rfl) (by kernel_rfl) (SL_cons (SE_var O1 (i := 0) rfl) (SL_cons (SE_var O1 (i := 1) rfl) SL_nil)) (hd := (by kernel_rfl))) rfl rfl))))) SS_nil)
noncomputable def m_gf_multiply : Fs := (sSeq (sRet (bindL F_mrest (lCons (bindL F_mmul (lCons (eVar 0) (lCons (eVar 1) (lCons (eVar 3) lNil)))) (lCons (eVar 2) (lCons (eVar 3) lNil))))) sNil)
noncomputable def F_gf_multiply : List D → Option D := fBody m_gf_multiply ["a", "b", "m", "p"] ["a", "b", "m", "p"]
theorem sf_gf_multiply {G : Gx} (O : G.Ok) (hD : ∀ d ∈ theDefs, d ∈ G.defs) (s_mmul : SF G 2 "mmul" F_mmul) (s_mrest : SF G 4 "mrest" F_mrest) : SF G 5 "gf_multiply" F_gf_multiply := by
  refine SF_def O (hD _ (dr_in (i := 42) (by kernel_rfl))) (pn := ["a", "b", "m", "p"]) (names := ["a", "b", "m", "p"]) (m := m_gf_multiply) (by kernel_rfl) rfl (fun pm code doc vs h => ?_) (fun A pm code doc L a O0 => ?_)
  · exact len4 (fun _ _ _ _ => rfl) vs h
  · exact (SS_cons (SS_ret (SE_call O0 s_mrest (Nat.le_of_ble_eq_true rfl) (by kernel_rfl) (SL_cons (SE_call O0 s_mmul (Nat.le_of_ble_eq_true rfl) (by kernel_rfl) (SL_cons (SE_var O0 (i := 0) rfl) (SL_cons (SE_var O0 (i := 1) rfl) (SL_cons (SE_var O0 (i := 3) rfl) SL_nil))) (hd := (by kernel_rfl))) (SL_cons (SE_var O0 (i := 2) rfl) (SL_cons (SE_var O0 (i := 3) rfl) SL_nil))) (hd := (by kernel_rfl)))) SS_nil)
noncomputable def m_gf_at : Fs := (sSeq (sAsg (eO (oLst lNil)) (gName 4)) (sSeq (sFor (iList (eO (oRev (eVarB 0)))) (gName 5) (sSeq (sAsg (bindL F_madd (lCons (bindL F_gf_multiply (lCons (eVar 4) (lCons (eVar 1) (lCons (eVar 2) (lCons (eVar 3) lNil))))) (lCons (bindL F_mscale (lCons (eO (oLst (lCons (eC (.int 1)) lNil))) (lCons (eVar 5) (lCons (eVar 3) lNil)))) (lCons (eVar 3) lNil)))) (gName 4)) sNil)) (sSeq (sRet (eVar 4)) sNil)))
noncomputable def F_gf_at : List D → Option D := fBody m_gf_at ["f", "a", "m", "p"] ["f", "a", "m", "p", "found", "number"]
theorem sf_gf_at {G : Gx} (O : G.Ok) (hD : ∀ d ∈ theDefs, d ∈ G.defs) (s_gf_multiply : SF G 5 "gf_multiply" F_gf_multiply) (s_mscale : SF G 2 "mscale" F_mscale) (s_madd : SF G 2 "madd" F_madd) : SF G 6 "gf_at" F_gf_at := by
  refine SF_def O (hD _ (dr_in (i := 43) (by kernel_rfl))) (pn := ["f", "a", "m", "p"]) (names := ["f", "a", "m", "p", "found", "number"]) (m := m_gf_at) (by kernel_rfl) rfl (fun pm code doc vs h => ?_) (fun A pm code doc L a O0 => ?_)
  · exact len4 (fun _ _ _ _ => rfl) vs h
  · exact (SS_cons (SS_asg O0 (SO.eo (SO_list SL_nil)) (i := 4) rfl (Nat.le_of_ble_eq_true rfl) (by kernel_rfl)) (SS_cons (SS_for O0 (SI_list O0 (SO.eo (SO_rev (SB_var O0 (i := 0) rfl) (SE_neg SE_int)))) (TG_name O0 (i := 5) rfl (Nat.le_of_ble_eq_true rfl)) rfl (SS_cons (SS_asg O0 (SE_call O0 s_madd (Nat.le_of_ble_eq_true rfl) (by kernel_rfl) (SL_cons (SE_call O0 s_gf_multiply (Nat.le_of_ble_eq_true rfl) (by kernel_rfl) (SL_cons (SE_var O0 (i := 4) rfl) (SL_cons (SE_var O0 (i := 1) rfl) (SL_cons (SE_var O0 (i := 2) rfl) (SL_cons (SE_var O0 (i := 3) rfl) SL_nil)))) (hd := (by kernel_rfl))) (SL_cons (SE_call O0 s_mscale (Nat.le_of_ble_eq_true rfl) (by kernel_rfl) (SL_cons (SO.eo (SO_list (SL_cons SE_int SL_nil))) (SL_cons (SE_var O0 (i := 5) rfl) (SL_cons (SE_var O0 (i := 3) rfl) SL_nil))) (hd := (by kernel_rfl))) (SL_cons (SE_var O0 (i := 3) rfl) SL_nil))) (hd := (by kernel_rfl))) (i := 4) rfl (Nat.le_of_ble_eq_true rfl) (by kernel_rfl)) SS_nil)) (SS_cons (SS_ret (SE_var O0 (i := 4) rfl)) SS_nil)))
noncomputable def m_moebius : Fs := (sSeq (sAsg (bindL F_prime_factors (lCons (eVar 0) lNil)) (gName 1)) (sSeq (sIf (tOf (bindL fAny (lCons (eO (oComp (iList (eVar 1)) 2 [] (gTup [0, 1]) (fun _ => some true) (kE (bind2 dGt (eVar 1) (eC (.int 1)))))) lNil))) (sSeq (sRet (eC (.int 0))) sNil) sNil) (sSeq (sRet (eIf (tOf (bind2 dEq (bind2 dMod (bindL fLen (lCons (eVarB 1) lNil)) (eC (.int 2))) (eC (.int 0)))) (eC (.int 1)) (bind1 dNeg (eC (.int 1))))) sNil)))
noncomputable def F_moebius : List D → Option D := fBody m_moebius ["n"] ["n", "pairs"]
theorem sf_moebius {G : Gx} (O : G.Ok) (hD : ∀ d ∈ theDefs, d ∈ G.defs) (s_prime_factors : SF G 2 "prime_factors" F_prime_factors) : SF G 3 "moebius" F_moebius := by
  refine SF_def O (hD _ (dr_in (i := 44) (by kernel_rfl))) (pn := ["n"]) (names := ["n", "pairs"]) (m := m_moebius) (by kernel_rfl) rfl (fun pm code doc vs h => ?_) (fun A pm code doc L a O0 => ?_)
  · exact len1 (fun _ => rfl) vs h
  · exact (SS_cons (SS_asg O0 (SE_call O0 s_prime_factors (Nat.le_of_ble_eq_true rfl) (by kernel_rfl) (SL_cons (SE_var O0 (i := 0) rfl) SL_nil) (hd := (by kernel_rfl))) (i := 1) rfl (Nat.le_of_ble_eq_true rfl) (by kernel_rfl)) (SS_cons (SS_if (ST_val (SE_bltV O0 bl_any PyProof.Rows.Boot.«any» (.inl ⟨_, rfl⟩) (by decide) (by kernel_rfl) (SL_cons (SO.eo (SO_comp O0 (es := _) (cn := ["n", "pairs"]) (names := ["prime", "many"]) (ro := 2) (fi := []) rfl rfl (by kernel_rfl) (SI_list O0 (SE_var O0 (i := 1) rfl)) (fun _ O1 => (LB_last rfl (TG_tup O1 (Elts_cons (i := 0) rfl (Nat.le_of_ble_eq_true rfl) (Elts_cons (i := 1) rfl (Nat.le_of_ble_eq_true rfl) Elts_nil))) ST_t0 (SE_cmp O1 op_gt (SE_var O1 (i := 1) rfl) SE_int) rfl rfl)))) SL_nil))) (SS_cons (SS_ret SE_int) SS_nil) SS_nil) (SS_cons (SS_ret (SE_if (ST_cmp O0 op_eq (SE_bin O0 op_mod (SE_blt O0 bl_len PyProof.Rows.Boot.«len» (.inl ⟨_, rfl⟩) (by decide) (by kernel_rfl) (SLB_cons (SB_var O0 (i := 1) rfl) SLB_nil)) SE_int) SE_int) SE_int (SE_neg SE_int))) SS_nil)))
noncomputable def m_count_prime_polys : Fs := (sSeq (sAsg (eC (.int 0)) (gName 2)) (sSeq (sFor (bindLO fRange (lCons (eC (.int 1)) (lCons (bind2 dAdd (eVar 1) (eC (.int 1))) lNil))) (gName 3) (sSeq (sIf (tOf (bind2 dEq (bind2 dMod (eVar 1) (eVar 3)) (eC (.int 0)))) (sSeq (sAsg (bind2 dAdd (eVar 2) (bind2 dMul (bindL F_moebius (lCons (eVar 3) lNil)) (bind2 dPow (eVar 0) (bind2 dDiv (eVar 1) (eVar 3))))) (gName 2)) sNil) sNil) sNil)) (sSeq (sRet (bind2 dDiv (eVar 2) (eVar 1))) sNil)))
noncomputable def F_count_prime_polys : List D → Option D := fBody m_count_prime_polys ["p", "k"] ["p", "k", "found", "divisor"]
theorem sf_count_prime_polys {G : Gx} (O : G.Ok) (hD : ∀ d ∈ theDefs, d ∈ G.defs) (s_moebius : SF G 3 "moebius" F_moebius) : SF G 4 "count_prime_polys" F_count_prime_polys := by
  refine SF_def O (hD _ (dr_in (i := 45) (by kernel_rfl))) (pn := ["p", "k"]) (names := ["p", "k", "found", "divisor"]) (m := m_count_prime_polys) (by kernel_rfl) rfl (fun pm code doc vs h => ?_) (fun A pm code doc L a O0 => ?_)
  · exact len2 (fun _ _ => rfl) vs h
  · exact (SS_cons (SS_asg O0 SE_int (i := 2) rfl (Nat.le_of_ble_eq_true rfl) (by kernel_rfl)) (SS_cons (SS_for O0 (SI_blt O0 bl_range PyProof.Rows.Boot.«range» (.inr ⟨_, rfl⟩) (by decide) (by kernel_rfl) (SL_cons SE_int (SL_cons (SE_bin O0 op_add (SE_var O0 (i := 1) rfl) SE_int) SL_nil))) (TG_name O0 (i := 3) rfl (Nat.le_of_ble_eq_true rfl)) rfl (SS_cons (SS_if (ST_cmp O0 op_eq (SE_bin O0 op_mod (SE_var O0 (i := 1) rfl) (SE_var O0 (i := 3) rfl)) SE_int) (SS_cons (SS_asg O0 (SE_bin O0 op_add (SE_var O0 (i := 2) rfl) (SE_bin O0 op_mul (SE_call O0 s_moebius (Nat.le_of_ble_eq_true rfl) (by kernel_rfl) (SL_cons (SE_var O0 (i := 3) rfl) SL_nil) (hd := (by kernel_rfl))) (SE_bin O0 op_pow (SE_var O0 (i := 0) rfl) (SE_bin O0 op_div (SE_var O0 (i := 1) rfl) (SE_var O0 (i := 3) rfl))))) (i := 2) rfl (Nat.le_of_ble_eq_true rfl) (by kernel_rfl)) SS_nil) SS_nil) SS_nil)) (SS_cons (SS_ret (SE_bin O0 op_div (SE_var O0 (i := 2) rfl) (SE_var O0 (i := 1) rfl))) SS_nil)))
noncomputable def m_first_prime_poly : Fs := (sSeq (sAsg (bind2 dPow (eVar 0) (eVar 1)) (gName 2)) (sSeq (sWhile 5000 (tNot (tOf (bindL F_is_prime_mod (lCons (bindL F_counted (lCons (eVar 2) (lCons (eVar 0) lNil))) (lCons (eVar 0) lNil))))) (sSeq (sAsg (bind2 dAdd (eVar 2) (eC (.int 1))) (gName 2)) sNil)) (sSeq (sRet (bindL F_counted (lCons (eVar 2) (lCons (eVar 0) lNil)))) sNil)))
noncomputable def F_first_prime_poly : List D → Option D := fBody m_first_prime_poly ["p", "k"] ["p", "k", "number"]
theorem sf_first_prime_poly {G : Gx} (O : G.Ok) (hD : ∀ d ∈ theDefs, d ∈ G.defs) (s_counted : SF G 2 "counted" F_counted) (s_is_prime_mod : SF G 6 "is_prime_mod" F_is_prime_mod) : SF G 7 "first_prime_poly" F_first_prime_poly := by
  refine SF_def O (hD _ (dr_in (i := 46) (by kernel_rfl))) (pn := ["p", "k"]) (names := ["p", "k", "number"]) (m := m_first_prime_poly) (by kernel_rfl) rfl (fun pm code doc vs h => ?_) (fun A pm code doc L a O0 => ?_)
  · exact len2 (fun _ _ => rfl) vs h
  · exact (SS_cons (SS_asg O0 (SE_bin O0 op_pow (SE_var O0 (i := 0) rfl) (SE_var O0 (i := 1) rfl)) (i := 2) rfl (Nat.le_of_ble_eq_true rfl) (by kernel_rfl)) (SS_cons (SS_while 5000 (ST_not (ST_val (SE_call O0 s_is_prime_mod (Nat.le_of_ble_eq_true rfl) (by kernel_rfl) (SL_cons (SE_call O0 s_counted (Nat.le_of_ble_eq_true rfl) (by kernel_rfl) (SL_cons (SE_var O0 (i := 2) rfl) (SL_cons (SE_var O0 (i := 0) rfl) SL_nil)) (hd := (by kernel_rfl))) (SL_cons (SE_var O0 (i := 0) rfl) SL_nil)) (hd := (by kernel_rfl))))) (SS_cons (SS_asg O0 (SE_bin O0 op_add (SE_var O0 (i := 2) rfl) SE_int) (i := 2) rfl (Nat.le_of_ble_eq_true rfl) (by kernel_rfl)) SS_nil)) (SS_cons (SS_ret (SE_call O0 s_counted (Nat.le_of_ble_eq_true rfl) (by kernel_rfl) (SL_cons (SE_var O0 (i := 2) rfl) (SL_cons (SE_var O0 (i := 0) rfl) SL_nil)) (hd := (by kernel_rfl)))) SS_nil)))
noncomputable def m_law_times : Fs := (sSeq (sAsgO (oRep (eO (oLst (lCons (eC (.int 0)) lNil))) (bind2 dSub (bind2 dAdd (bindL fLen (lCons (eVarB 0) lNil)) (bindL fLen (lCons (eVarB 1) lNil))) (eC (.int 1)))) 3) (sSeq (sFor (bindLO fEnum (lCons (eVar 0) lNil)) (gTup [4, 5]) (sSeq (sFor (bindLO fEnum (lCons (eVar 1) lNil)) (gTup [6, 7]) (sSeq (sSet 3 (bind2 dAdd (eVar 4) (eVar 6)) (bind2 dMod (bind2 dAdd (bind2 dIdx (eVarB 3) (bind2 dAdd (eVar 4) (eVar 6))) (bind2 dMul (eVar 5) (eVar 7))) (eVar 2))) sNil)) sNil)) (sSeq (sFrz 3 (sRet (eVar 3))) sNil)))
noncomputable def F_law_times : List D → Option D := fBody m_law_times ["a", "b", "p"] ["a", "b", "p", "found", "at", "one", "spot", "other"]
theorem sf_law_times {G : Gx} (O : G.Ok) (hD : ∀ d ∈ theDefs, d ∈ G.defs) : SF G 1 "_law_times" F_law_times := by
  refine SF_def O (hD _ (dr_in (i := 49) (by kernel_rfl))) (pn := ["a", "b", "p"]) (names := ["a", "b", "p", "found", "at", "one", "spot", "other"]) (m := m_law_times) (by kernel_rfl) rfl (fun pm code doc vs h => ?_) (fun A pm code doc L a O0 => ?_)
  · exact len3 (fun _ _ _ => rfl) vs h
  · exact (SS_cons (SS_asgO O0 (SO_rep (SE.b (SO.eo (SO_list (SL_cons SE_int SL_nil)))) (SE_bin O0 op_sub (SE_bin O0 op_add (SE_blt O0 bl_len PyProof.Rows.Boot.«len» (.inl ⟨_, rfl⟩) (by decide) (by kernel_rfl) (SLB_cons (SB_var O0 (i := 0) rfl) SLB_nil)) (SE_blt O0 bl_len PyProof.Rows.Boot.«len» (.inl ⟨_, rfl⟩) (by decide) (by kernel_rfl) (SLB_cons (SB_var O0 (i := 1) rfl) SLB_nil))) SE_int)) (i := 3) rfl (Nat.le_of_ble_eq_true rfl) (by kernel_rfl)) (SS_cons (SS_for O0 (SI_blt O0 bl_enum PyProof.Rows.Boot.«enumerate» (.inr ⟨_, rfl⟩) (by decide) (by kernel_rfl) (SL_cons (SE_var O0 (i := 0) rfl) SL_nil)) (TG_tup O0 (Elts_cons (i := 4) rfl (Nat.le_of_ble_eq_true rfl) (Elts_cons (i := 5) rfl (Nat.le_of_ble_eq_true rfl) Elts_nil))) rfl (SS_cons (SS_for O0 (SI_blt O0 bl_enum PyProof.Rows.Boot.«enumerate» (.inr ⟨_, rfl⟩) (by decide) (by kernel_rfl) (SL_cons (SE_var O0 (i := 1) rfl) SL_nil)) (TG_tup O0 (Elts_cons (i := 6) rfl (Nat.le_of_ble_eq_true rfl) (Elts_cons (i := 7) rfl (Nat.le_of_ble_eq_true rfl) Elts_nil))) rfl (SS_cons (SS_set O0 (i := 3) rfl (SE_bin O0 op_add (SE_var O0 (i := 4) rfl) (SE_var O0 (i := 6) rfl)) (SE_bin O0 op_mod (SE_bin O0 op_add (SE_idx (SB_var O0 (i := 3) rfl) (SE_bin O0 op_add (SE_var O0 (i := 4) rfl) (SE_var O0 (i := 6) rfl))) (SE_bin O0 op_mul (SE_var O0 (i := 5) rfl) (SE_var O0 (i := 7) rfl))) (SE_var O0 (i := 2) rfl)) (by kernel_rfl)) SS_nil)) SS_nil)) (SS_cons (SS_frz' 3 (SS_ret (SE_var O0 (i := 3) rfl))) SS_nil)))
noncomputable def m_law_monic : Fs := (sSeq (sAsg (eO (oLst (lCons (eO (oLst lNil)) lNil))) (gName 2)) (sSeq (sFor (bindLO fRange (lCons (eVar 0) lNil)) (gName 3) (sSeq (sSeqF 2 (sAsgO (oComp (iList (eVar 2)) 2 [1] (gName 0) (fun _ => some true) (kGen (bindLO fRange (lCons (eVar 2) lNil)) (gName 1) (fun _ => some true) (kE (eO (oCat (eO (oLst (lCons (eVar 1) lNil))) (eVarB 0)))))) 2)) sNil)) (sSeq (sRet (eO (oSortK (fun d => (eO (oRev (eVarB 0))) [.val d]) (eO (oComp (iList (eVar 2)) 1 [] (gName 0) (fun _ => some true) (kE (eO (oCat (eVarB 0) (eO (oLst (lCons (eC (.int 1)) lNil))))))))))) sNil)))
noncomputable def F_law_monic : List D → Option D := fBody m_law_monic ["degree", "p"] ["degree", "p", "rows", "turn"]
theorem sf_law_monic {G : Gx} (O : G.Ok) (hD : ∀ d ∈ theDefs, d ∈ G.defs) (LB : LamB G theL.cm theL.tab) (hP : Ph2 G theL.tab theL.lp theL.q) (hc : MonC G) : SF G 3 "_law_monic" F_law_monic := by
  refine SF_defC O (hD _ (dr_in (i := 48) (by kernel_rfl))) (pn := ["degree", "p"]) (names := ["degree", "p", "rows", "turn"]) (m := m_law_monic) (by kernel_rfl) rfl (fun pm code doc vs h => ?_) (CK := fun c => c = .ref theL.cm) hc (fun A pm code doc L a hck O0 => ?_)
  · exact len2 (fun _ _ => rfl) vs h
  · subst hck
    exact (SS_cons (SS_asg O0 (SO.eo (SO_list (SL_cons (SO.eo (SO_list SL_nil)) SL_nil))) (i := 2) rfl (Nat.le_of_ble_eq_true rfl) (by kernel_rfl)) (SS_cons (SS_for O0 (SI_blt O0 bl_range PyProof.Rows.Boot.«range» (.inr ⟨_, rfl⟩) (by decide) (by kernel_rfl) (SL_cons (SE_var O0 (i := 0) rfl) SL_nil)) (TG_name O0 (i := 3) rfl (Nat.le_of_ble_eq_true rfl)) rfl (SS_cons (SS_seqF 2 (SS_asgComp O0 (i := 2) (es := _) (cn := ["degree", "p", "rows", "turn"]) (names := ["row", "one", "p"]) (ro := 2) (fi := [1]) rfl (Nat.le_of_ble_eq_true rfl) rfl rfl (by kernel_rfl) (SI_list O0 (SE_var O0 (i := 2) rfl)) (fun _ O1 => (LB_more rfl (TG_name O1 (i := 0) rfl (Nat.le_of_ble_eq_true rfl)) ST_t0 (SI_blt O1 bl_range PyProof.Rows.Boot.«range» (.inr ⟨_, rfl⟩) (by decide) (by kernel_rfl) (SL_cons (SE_var O1 (i := 2) rfl) SL_nil)) (LB_last rfl (TG_name O1 (i := 1) rfl (Nat.le_of_ble_eq_true rfl)) ST_t0 (SO.eo (SO_cat (SE.b (SO.eo (SO_list (SL_cons (SE_var O1 (i := 1) rfl) SL_nil)))) (SB_var O1 (i := 0) rfl))) rfl rfl) rfl)) (by kernel_rfl))) SS_nil)) (SS_cons (SS_ret (SO.eo (SO_sortLam O0 (lp := theL.lp) LB hP (x := "row") (mb := (eO (oRev (eVarB 0)))) (⟨fun _ => rfl, fun _ => rfl, by kernel_rfl, fun fd v h1 h2 h3 => lam_bind h1 h2 h3 rfl, fun C O hn => SO.eo (SO_rev (SB_var O (i := 0) (by rw [hn]; rfl)) (SE_neg SE_int))⟩) rfl rfl (Nat.le_of_ble_eq_true rfl) (by kernel_rfl) (SO.eo (SO_comp O0 (es := _) (cn := ["degree", "p", "rows", "turn"]) (names := ["row"]) (ro := 1) (fi := []) rfl rfl (by kernel_rfl) (SI_list O0 (SE_var O0 (i := 2) rfl)) (fun _ O1 => (LB_last rfl (TG_name O1 (i := 0) rfl (Nat.le_of_ble_eq_true rfl)) ST_t0 (SO.eo (SO_cat (SB_var O1 (i := 0) rfl) (SE.b (SO.eo (SO_list (SL_cons SE_int SL_nil)))))) rfl rfl))))))) SS_nil)))
noncomputable def m_law_monicT : Fs := (sSeqT (sAsg (eO (oLst (lCons (eO (oLst lNil)) lNil))) (gName 2)) (sSeqT (sFor (bindLO fRange (lCons (eVar 0) lNil)) (gName 3) (sSeq (sSeqF 2 (sAsgO (oComp (iList (eVar 2)) 2 [1] (gName 0) (fun _ => some true) (kGen (bindLO fRange (lCons (eVar 2) lNil)) (gName 1) (fun _ => some true) (kE (eO (oCat (eO (oLst (lCons (eVar 1) lNil))) (eVarB 0)))))) 2)) sNil)) (sSeq (sRet (eO (oSortK (fun d => (eO (oRev (eVarB 0))) [.val d]) (eO (oComp (iList (eVar 2)) 1 [] (gName 0) (fun _ => some true) (kE (eO (oCat (eVarB 0) (eO (oLst (lCons (eC (.int 1)) lNil))))))))))) sNil)))
noncomputable def F_law_monicT : List D → Option D := fBody m_law_monicT ["degree", "p"] ["degree", "p", "rows", "turn"]
theorem sft_law_monic {G : Gx} (O : G.Ok) (hD : ∀ d ∈ theDefs, d ∈ G.defs) (LB : LamB G theL.cm theL.tab) (hc : MonC G) : SFt theL G 3 "_law_monic" F_law_monicT := by
  refine SFt_def O (hD _ (dr_in (i := 48) (by kernel_rfl))) (pn := ["degree", "p"]) (names := ["degree", "p", "rows", "turn"]) (m := m_law_monicT) (by kernel_rfl) rfl (fun pm code doc vs h => ?_) (CK := fun c => c = .ref theL.cm) hc (fun A pm code doc L a hck O0 => ?_)
  · exact len2 (fun _ _ => rfl) vs h
  · subst hck
    exact (SSt_cons1 (SS_asg O0 (SO.eo (SO_list (SL_cons (SO.eo (SO_list SL_nil)) SL_nil))) (i := 2) rfl (Nat.le_of_ble_eq_true rfl) (by kernel_rfl)) (SSt_cons1 (SS_for O0 (SI_blt O0 bl_range PyProof.Rows.Boot.«range» (.inr ⟨_, rfl⟩) (by decide) (by kernel_rfl) (SL_cons (SE_var O0 (i := 0) rfl) SL_nil)) (TG_name O0 (i := 3) rfl (Nat.le_of_ble_eq_true rfl)) rfl (SS_cons (SS_seqF 2 (SS_asgComp O0 (i := 2) (es := _) (cn := ["degree", "p", "rows", "turn"]) (names := ["row", "one", "p"]) (ro := 2) (fi := [1]) rfl (Nat.le_of_ble_eq_true rfl) rfl rfl (by kernel_rfl) (SI_list O0 (SE_var O0 (i := 2) rfl)) (fun _ O1 => (LB_more rfl (TG_name O1 (i := 0) rfl (Nat.le_of_ble_eq_true rfl)) ST_t0 (SI_blt O1 bl_range PyProof.Rows.Boot.«range» (.inr ⟨_, rfl⟩) (by decide) (by kernel_rfl) (SL_cons (SE_var O1 (i := 2) rfl) SL_nil)) (LB_last rfl (TG_name O1 (i := 1) rfl (Nat.le_of_ble_eq_true rfl)) ST_t0 (SO.eo (SO_cat (SE.b (SO.eo (SO_list (SL_cons (SE_var O1 (i := 1) rfl) SL_nil)))) (SB_var O1 (i := 0) rfl))) rfl rfl) rfl)) (by kernel_rfl))) SS_nil)) (SSt_one (SSt_ret (SOt.e (SO_sortLamT O0 LB (x := "row") (mb := (eO (oRev (eVarB 0)))) (⟨fun _ => rfl, fun _ => rfl, by kernel_rfl, fun fd v h1 h2 h3 => lam_bind h1 h2 h3 rfl, fun C O hn => SO.eo (SO_rev (SB_var O (i := 0) (by rw [hn]; rfl)) (SE_neg SE_int))⟩) rfl rfl rfl (Nat.le_of_ble_eq_true rfl) (by kernel_rfl) (SO.eo (SO_comp O0 (es := _) (cn := ["degree", "p", "rows", "turn"]) (names := ["row"]) (ro := 1) (fi := []) rfl rfl (by kernel_rfl) (SI_list O0 (SE_var O0 (i := 2) rfl)) (fun _ O1 => (LB_last rfl (TG_name O1 (i := 0) rfl (Nat.le_of_ble_eq_true rfl)) ST_t0 (SO.eo (SO_cat (SB_var O1 (i := 0) rfl) (SE.b (SO.eo (SO_list (SL_cons SE_int SL_nil)))))) rfl rfl))))))))))
noncomputable def m_law_primes : Fs := (sSeq (sAsg (eO (oLst lNil)) (gName 2)) (sSeq (sFor (bindLO fRange (lCons (eC (.int 1)) (lCons (bind2 dAdd (eVar 0) (eC (.int 1))) lNil))) (gName 3) (sSeq (sAsg (eO (oComp (bindLO fRange (lCons (eC (.int 1)) (lCons (bind2 dAdd (bind2 dDiv (eVar 3) (eC (.int 2))) (eC (.int 1))) lNil))) 3 [1, 3] (gName 0) (fun _ => some true) (kGen (iList (bindL F_law_monic (lCons (eVar 0) (lCons (eVar 3) lNil)))) (gName 1) (fun _ => some true) (kGen (iList (bindL F_law_monic (lCons (bind2 dSub (eVar 4) (eVar 0)) (lCons (eVar 3) lNil)))) (gName 2) (fun _ => some true) (kE (bindL F_law_times (lCons (eVar 1) (lCons (eVar 2) (lCons (eVar 3) lNil))))))))) (gName 4)) (sSeq (sAsg (eO (oCat (eVarB 2) (eO (oComp (iList (bindL F_law_monic (lCons (eVar 3) (lCons (eVar 1) lNil)))) 1 [4] (gName 0) (tOf (bind2 dNotIn (eVar 0) (eVar 1))) (kE (eVar 0)))))) (gName 2)) sNil))) (sSeq (sRet (eVar 2)) sNil)))
noncomputable def F_law_primes : List D → Option D := fBody m_law_primes ["most", "p"] ["most", "p", "found", "degree", "products"]
theorem sf_law_primes {G : Gx} (O : G.Ok) (hD : ∀ d ∈ theDefs, d ∈ G.defs) (s_law_monic : SF G 3 "_law_monic" F_law_monic) (s_law_times : SF G 1 "_law_times" F_law_times) : SF G 4 "_law_primes" F_law_primes := by
  refine SF_def O (hD _ (dr_in (i := 50) (by kernel_rfl))) (pn := ["most", "p"]) (names := ["most", "p", "found", "degree", "products"]) (m := m_law_primes) (by kernel_rfl) rfl (fun pm code doc vs h => ?_) (fun A pm code doc L a O0 => ?_)
  · exact len2 (fun _ _ => rfl) vs h
  · exact (SS_cons (SS_asg O0 (SO.eo (SO_list SL_nil)) (i := 2) rfl (Nat.le_of_ble_eq_true rfl) (by kernel_rfl)) (SS_cons (SS_for O0 (SI_blt O0 bl_range PyProof.Rows.Boot.«range» (.inr ⟨_, rfl⟩) (by decide) (by kernel_rfl) (SL_cons SE_int (SL_cons (SE_bin O0 op_add (SE_var O0 (i := 0) rfl) SE_int) SL_nil))) (TG_name O0 (i := 3) rfl (Nat.le_of_ble_eq_true rfl)) rfl (SS_cons (SS_asg O0 (SO.eo (SO_comp O0 (es := _) (cn := ["most", "p", "found", "degree", "products"]) (names := ["one", "a", "b", "p", "degree"]) (ro := 3) (fi := [1, 3]) rfl rfl (by kernel_rfl) (SI_blt O0 bl_range PyProof.Rows.Boot.«range» (.inr ⟨_, rfl⟩) (by decide) (by kernel_rfl) (SL_cons SE_int (SL_cons (SE_bin O0 op_add (SE_bin O0 op_div (SE_var O0 (i := 3) rfl) SE_int) SE_int) SL_nil))) (fun _ O1 => (LB_more rfl (TG_name O1 (i := 0) rfl (Nat.le_of_ble_eq_true rfl)) ST_t0 (SI_list O1 (SE_call O1 s_law_monic (Nat.le_of_ble_eq_true rfl) (by kernel_rfl) (SL_cons (SE_var O1 (i := 0) rfl) (SL_cons (SE_var O1 (i := 3) rfl) SL_nil)) (hd := (by kernel_rfl)))) (LB_more rfl (TG_name O1 (i := 1) rfl (Nat.le_of_ble_eq_true rfl)) ST_t0 (SI_list O1 (SE_call O1 s_law_monic (Nat.le_of_ble_eq_true rfl) (by kernel_rfl) (SL_cons (SE_bin O1 op_sub (SE_var O1 (i := 4) rfl) (SE_var O1 (i := 0) rfl)) (SL_cons (SE_var O1 (i := 3) rfl) SL_nil)) (hd := (by kernel_rfl)))) (LB_last rfl (TG_name O1 (i := 2) rfl (Nat.le_of_ble_eq_true rfl)) ST_t0 (SE_call O1 s_law_times (Nat.le_of_ble_eq_true rfl) (by kernel_rfl) (SL_cons (SE_var O1 (i := 1) rfl) (SL_cons (SE_var O1 (i := 2) rfl) (SL_cons (SE_var O1 (i := 3) rfl) SL_nil))) (hd := (by kernel_rfl))) rfl rfl) rfl) rfl)))) (i := 4) rfl (Nat.le_of_ble_eq_true rfl) (by kernel_rfl)) (SS_cons (SS_asg O0 (SO.eo (SO_cat (SB_var O0 (i := 2) rfl) (SE.b (SO.eo (SO_comp O0 (es := _) (cn := ["most", "p", "found", "degree", "products"]) (names := ["row", "products"]) (ro := 1) (fi := [4]) rfl rfl (by kernel_rfl) (SI_list O0 (SE_call O0 s_law_monic (Nat.le_of_ble_eq_true rfl) (by kernel_rfl) (SL_cons (SE_var O0 (i := 3) rfl) (SL_cons (SE_var O0 (i := 1) rfl) SL_nil)) (hd := (by kernel_rfl)))) (fun _ O1 => (LB_last rfl (TG_name O1 (i := 0) rfl (Nat.le_of_ble_eq_true rfl)) (ST_t1 (ST_cmp O1 op_notin (SE_var O1 (i := 0) rfl) (SE_var O1 (i := 1) rfl))) (SE_var O1 (i := 0) rfl) rfl rfl))))))) (i := 2) rfl (Nat.le_of_ble_eq_true rfl) (by kernel_rfl)) SS_nil))) (SS_cons (SS_ret (SE_var O0 (i := 2) rfl)) SS_nil)))
noncomputable def m_law_primesT : Fs := (sSeqT (sAsg (eO (oLst lNil)) (gName 2)) (sSeq (sForT (bindLO fRange (lCons (eC (.int 1)) (lCons (bind2 dAdd (eVar 0) (eC (.int 1))) lNil))) (gName 3) (sSeqT (sAsg (eO (oComp (bindLO fRange (lCons (eC (.int 1)) (lCons (bind2 dAdd (bind2 dDiv (eVar 3) (eC (.int 2))) (eC (.int 1))) lNil))) 3 [1, 3] (gName 0) (fun _ => some true) (kGen (iList (bindL F_never (lCons (eVar 0) (lCons (eVar 3) lNil)))) (gName 1) (fun _ => some true) (kGen (iList (bindL F_never (lCons (bind2 dSub (eVar 4) (eVar 0)) (lCons (eVar 3) lNil)))) (gName 2) (fun _ => some true) (kE (bindL F_law_times (lCons (eVar 1) (lCons (eVar 2) (lCons (eVar 3) lNil))))))))) (gName 4)) (sSeq (sAsg (eO (oCat (eVarB 2) (eO (oComp (iList (bindL F_law_monicT (lCons (eVar 3) (lCons (eVar 1) lNil)))) 1 [4] (gName 0) (tOf (bind2 dNotIn (eVar 0) (eVar 1))) (kE (eVar 0)))))) (gName 2)) sNil)) (sSeq (sAsg (eO (oComp (bindLO fRange (lCons (eC (.int 1)) (lCons (bind2 dAdd (bind2 dDiv (eVar 3) (eC (.int 2))) (eC (.int 1))) lNil))) 3 [1, 3] (gName 0) (fun _ => some true) (kGen (iList (bindL F_law_monic (lCons (eVar 0) (lCons (eVar 3) lNil)))) (gName 1) (fun _ => some true) (kGen (iList (bindL F_law_monic (lCons (bind2 dSub (eVar 4) (eVar 0)) (lCons (eVar 3) lNil)))) (gName 2) (fun _ => some true) (kE (bindL F_law_times (lCons (eVar 1) (lCons (eVar 2) (lCons (eVar 3) lNil))))))))) (gName 4)) (sSeq (sAsg (eO (oCat (eVarB 2) (eO (oComp (iList (bindL F_law_monic (lCons (eVar 3) (lCons (eVar 1) lNil)))) 1 [4] (gName 0) (tOf (bind2 dNotIn (eVar 0) (eVar 1))) (kE (eVar 0)))))) (gName 2)) sNil))) (sSeq (sRet (eVar 2)) sNil)))
noncomputable def F_law_primesT : List D → Option D := fBody m_law_primesT ["most", "p"] ["most", "p", "found", "degree", "products"]
theorem sft_law_primes {G : Gx} (O : G.Ok) (hD : ∀ d ∈ theDefs, d ∈ G.defs) (st_law_monic : SFt theL G 3 "_law_monic" F_law_monicT) (s_law_monic : ∀ h, Nx G theL h → SF (G.put h) 3 "_law_monic" F_law_monic) (s0_law_times : SF G 1 "_law_times" F_law_times) (s_law_times : ∀ h, Nx G theL h → SF (G.put h) 1 "_law_times" F_law_times) : SFt theL G 4 "_law_primes" F_law_primesT := by
  have s0_law_monic : SF G 3 "_law_monic" F_never := SF_never O (hD _ (dr_in (i := 48) (by kernel_rfl)))
  refine SFt_def O (hD _ (dr_in (i := 50) (by kernel_rfl))) (pn := ["most", "p"]) (names := ["most", "p", "found", "degree", "products"]) (m := m_law_primesT) (by kernel_rfl) rfl (fun pm code doc vs h => ?_) (CK := fun _ => True) (fun _ _ _ _ _ _ _ _ => trivial) (fun A pm code doc L a _ O0 => ?_)
  · exact len2 (fun _ _ => rfl) vs h
  · exact (SSt_cons1 (SS_asg O0 (SO.eo (SO_list SL_nil)) (i := 2) rfl (Nat.le_of_ble_eq_true rfl) (by kernel_rfl)) (SSt_cons2 (SSt_for O0 (SI_blt O0 bl_range PyProof.Rows.Boot.«range» (.inr ⟨_, rfl⟩) (by decide) (by kernel_rfl) (SL_cons SE_int (SL_cons (SE_bin O0 op_add (SE_var O0 (i := 0) rfl) SE_int) SL_nil))) (TG_name O0 (i := 3) rfl (Nat.le_of_ble_eq_true rfl)) rfl (SSt_cons1 (SS_asg O0 (SO.eo (SO_comp O0 (es := _) (cn := ["most", "p", "found", "degree", "products"]) (names := ["one", "a", "b", "p", "degree"]) (ro := 3) (fi := [1, 3]) rfl rfl (by kernel_rfl) (SI_blt O0 bl_range PyProof.Rows.Boot.«range» (.inr ⟨_, rfl⟩) (by decide) (by kernel_rfl) (SL_cons SE_int (SL_cons (SE_bin O0 op_add (SE_bin O0 op_div (SE_var O0 (i := 3) rfl) SE_int) SE_int) SL_nil))) (fun _ O1 => (LB_more rfl (TG_name O1 (i := 0) rfl (Nat.le_of_ble_eq_true rfl)) ST_t0 (SI_list O1 (SE_call O1 s0_law_monic (Nat.le_of_ble_eq_true rfl) (by kernel_rfl) (SL_cons (SE_var O1 (i := 0) rfl) (SL_cons (SE_var O1 (i := 3) rfl) SL_nil)) (hd := (by kernel_rfl)))) (LB_more rfl (TG_name O1 (i := 1) rfl (Nat.le_of_ble_eq_true rfl)) ST_t0 (SI_list O1 (SE_call O1 s0_law_monic (Nat.le_of_ble_eq_true rfl) (by kernel_rfl) (SL_cons (SE_bin O1 op_sub (SE_var O1 (i := 4) rfl) (SE_var O1 (i := 0) rfl)) (SL_cons (SE_var O1 (i := 3) rfl) SL_nil)) (hd := (by kernel_rfl)))) (LB_last rfl (TG_name O1 (i := 2) rfl (Nat.le_of_ble_eq_true rfl)) ST_t0 (SE_call O1 s0_law_times (Nat.le_of_ble_eq_true rfl) (by kernel_rfl) (SL_cons (SE_var O1 (i := 1) rfl) (SL_cons (SE_var O1 (i := 2) rfl) (SL_cons (SE_var O1 (i := 3) rfl) SL_nil))) (hd := (by kernel_rfl))) rfl rfl) rfl) rfl)))) (i := 4) rfl (Nat.le_of_ble_eq_true rfl) (by kernel_rfl)) (SSt_one (SSt_asg O0 (SOt.e (SO_catT (SB_var O0 (i := 2) rfl) (SOt.e (SO_compT O0 (es := _) (cn := ["most", "p", "found", "degree", "products"]) (names := ["row", "products"]) (ro := 1) (fi := [4]) rfl rfl (by kernel_rfl) (SI_listT O0 (SE_callT O0 st_law_monic (Nat.le_of_ble_eq_true rfl) (by kernel_rfl) (SL_cons (SE_var O0 (i := 3) rfl) (SL_cons (SE_var O0 (i := 1) rfl) SL_nil)) (hd := (by kernel_rfl)))) (fun _ _ _ O1 => (LB_last rfl (TG_name O1 (i := 0) rfl (Nat.le_of_ble_eq_true rfl)) (ST_t1 (ST_cmp O1 op_notin (SE_var O1 (i := 0) rfl) (SE_var O1 (i := 1) rfl))) (SE_var O1 (i := 0) rfl) rfl rfl)))))) (i := 2) rfl (Nat.le_of_ble_eq_true rfl) (by kernel_rfl)))) (fun h hx => by have O1 := Cx.put_ok O0 (hx.ok O); exact (TG_name O1 (i := 3) rfl (Nat.le_of_ble_eq_true rfl))) (fun h hx => by have O1 := Cx.put_ok O0 (hx.ok O); exact (SS_cons (SS_asg O1 (SO.eo (SO_comp O1 (es := _) (cn := ["most", "p", "found", "degree", "products"]) (names := ["one", "a", "b", "p", "degree"]) (ro := 3) (fi := [1, 3]) rfl rfl (by kernel_rfl) (SI_blt O1 bl_range PyProof.Rows.Boot.«range» (.inr ⟨_, rfl⟩) (by decide) (by kernel_rfl) (SL_cons SE_int (SL_cons (SE_bin O1 op_add (SE_bin O1 op_div (SE_var O1 (i := 3) rfl) SE_int) SE_int) SL_nil))) (fun _ O2 => (LB_more rfl (TG_name O2 (i := 0) rfl (Nat.le_of_ble_eq_true rfl)) ST_t0 (SI_list O2 (SE_call O2 (s_law_monic h hx) (Nat.le_of_ble_eq_true rfl) (by kernel_rfl) (SL_cons (SE_var O2 (i := 0) rfl) (SL_cons (SE_var O2 (i := 3) rfl) SL_nil)) (hd := (by kernel_rfl)))) (LB_more rfl (TG_name O2 (i := 1) rfl (Nat.le_of_ble_eq_true rfl)) ST_t0 (SI_list O2 (SE_call O2 (s_law_monic h hx) (Nat.le_of_ble_eq_true rfl) (by kernel_rfl) (SL_cons (SE_bin O2 op_sub (SE_var O2 (i := 4) rfl) (SE_var O2 (i := 0) rfl)) (SL_cons (SE_var O2 (i := 3) rfl) SL_nil)) (hd := (by kernel_rfl)))) (LB_last rfl (TG_name O2 (i := 2) rfl (Nat.le_of_ble_eq_true rfl)) ST_t0 (SE_call O2 (s_law_times h hx) (Nat.le_of_ble_eq_true rfl) (by kernel_rfl) (SL_cons (SE_var O2 (i := 1) rfl) (SL_cons (SE_var O2 (i := 2) rfl) (SL_cons (SE_var O2 (i := 3) rfl) SL_nil))) (hd := (by kernel_rfl))) rfl rfl) rfl) rfl)))) (i := 4) rfl (Nat.le_of_ble_eq_true rfl) (by kernel_rfl)) (SS_cons (SS_asg O1 (SO.eo (SO_cat (SB_var O1 (i := 2) rfl) (SE.b (SO.eo (SO_comp O1 (es := _) (cn := ["most", "p", "found", "degree", "products"]) (names := ["row", "products"]) (ro := 1) (fi := [4]) rfl rfl (by kernel_rfl) (SI_list O1 (SE_call O1 (s_law_monic h hx) (Nat.le_of_ble_eq_true rfl) (by kernel_rfl) (SL_cons (SE_var O1 (i := 3) rfl) (SL_cons (SE_var O1 (i := 1) rfl) SL_nil)) (hd := (by kernel_rfl)))) (fun _ O2 => (LB_last rfl (TG_name O2 (i := 0) rfl (Nat.le_of_ble_eq_true rfl)) (ST_t1 (ST_cmp O2 op_notin (SE_var O2 (i := 0) rfl) (SE_var O2 (i := 1) rfl))) (SE_var O2 (i := 0) rfl) rfl rfl))))))) (i := 2) rfl (Nat.le_of_ble_eq_true rfl) (by kernel_rfl)) SS_nil)))) (fun h hx => by have O1 := Cx.put_ok O0 (hx.ok O); exact (SS_cons (SS_ret (SE_var O1 (i := 2) rfl)) SS_nil))))
end Pf

namespace Pf
open PySem PySem.Calls PyProof.Rows PySem.W

/- ---- the box of drawn numbers ---- -/
structure BoxOk (ab al : Addr) (N : Nat) (h : Heap) : Prop where
  ne : ab ≠ al
  box : ∃ n : Nat, ∃ tn cb, h.get? ab = some (lobj #[.ref al, .int n tn] cb) ∧ n ≤ N
  lst : ∃ vs cl, h.get? al = some (lobj vs cl) ∧ vs.size ≤ 20 ∧ ∀ v ∈ vs.toList, ∃ x : Nat, ∃ t, v = .int x t
theorem BoxOk.kept {ab al : Addr} {N : Nat} {h h' : Heap} (B : BoxOk ab al N h) (k1 : ∀ o, h.get? ab = some o → h'.get? ab = some o) (k2 : ∀ o, h.get? al = some o → h'.get? al = some o) : BoxOk ab al N h' := by
  obtain ⟨n, tn, cb, h1, h2⟩ := B.box
  obtain ⟨vs, cl, h3, h4⟩ := B.lst
  exact ⟨B.ne, ⟨n, tn, cb, k1 _ h1, h2⟩, ⟨vs, cl, k2 _ h3, h4⟩⟩
noncomputable def TakeOk (G : Gx) (n : Nat) (v : Value) : Prop :=
  ∀ A s ab al N (many : Nat) tm (Q : Value → Shared → Prop), A.handled = none → Room A n → (∀ b o, G.h0.get? b = some o → s.heap.get? b = some o ∧ b ≠ ab ∧ b ≠ al) → BoxOk ab al N s.heap → N ≤ 1000 → 0 < many →
    (∀ (r : Nat) t s', r < many → (∃ h' tk, s' = { s with heap := h', toks := tk }) → (∀ b o, b ≠ ab → b ≠ al → s.heap.get? b = some o → s'.heap.get? b = some o) → BoxOk ab al (N + 1) s'.heap → Q (.int r t) s') → W G A (call v [.ref ab, .int many tm]) Q s
noncomputable def STake (G : Gx) (n : Nat) : Prop := ∃ a o fd, G.mg "_law_take" = some (.ref a) ∧ G.h0.get? a = some o ∧ o.data = .func fd ∧ TakeOk G n (.ref a)

/-- the frame's box -/
structure HasBox (C : Cx) (i : Nat) (x : Str) (ab : Addr) : Prop where
  hx : C.names[i]? = some x
  pin : C.pin ≤ i
  fx : C.fx x = some (.ref ab)
theorem box_name {C : Cx} (O : C.Ok) {i : Nat} {x : Str} {ab : Addr} (B : HasBox C i x ab) {X P U : AS} {σ : St} {s : Shared} (R : Rel C X P U σ s) {pos : Pos} {Q : Value → Shared → Prop} (h : Q (.ref ab) s) : W C.G C.A (eval (.Name x pos) C.env) Q s := by
  obtain ⟨ρ, V⟩ := R.vars
  exact (ld_name O V.fr B.hx ((V.fx i x B.pin B.hx).trans B.fx) h).2
theorem item_val {G : Gx} {A : Around} {s : Shared} {value slice : Expr} {l : Addr} {vs : Array Value} {n : Nat} {k : Nat} {u : Tok} {v : Value} {Q : Value → Shared → Prop} (hg : s.heap.get? l = some (lobj vs n)) (hk : k < 2 ^ 63) (hx : vs[k]? = some v)
    (hs : ∀ o i, subscripted slice false o i = operate [o, i] (getItem o i)) (h : Q v s) : W G A (subscriptTail value slice (.ref l) (.int (k : Int) u)) Q s :=
  tail_any (IsList_of hg).typeIs slot_list_getitem.lookup (wpAny_getItem_list (IsList_of hg) (Int.natCast_nonneg k) (by omega) (by simpa using hx) h) (hs _ _)
/-- box[k] -/
theorem box_item {C : Cx} (O : C.Ok) {i : Nat} {x : Str} {ab : Addr} (B : HasBox C i x ab) {X P U : AS} {σ : St} {s : Shared} (R : Rel C X P U σ s) {p1 p2 pos : Pos} {kd k : Nat} {vs : Array Value} {n : Nat} {v : Value} (hg : s.heap.get? ab = some (lobj vs n)) (hk : k < 2 ^ 63) (hx : vs[k]? = some v)
    {Q : Value → Shared → Prop} (h : ∀ tk, Q v { s with toks := tk }) : W C.G C.A (eval (.Subscript (.Name x p1) (.Constant (.int (k : Int)) kd p2) pos) C.env) Q s := by
  refine Subscript_ (box_name O B R ?_)
  exact wpAny_Constant_int (item_val hg hk hx (fun _ _ => rfl) (h _))

theorem set_at {G : Gx} {A : Around} {s : Shared} {l : Addr} {vs : Array Value} {n k : Nat} {t : Tok} {v : Value} {Q : Unit → Shared → Prop} (hg : s.heap.get? l = some (lobj vs n)) (hk : k < vs.size) (h63 : k < 2 ^ 63)
    (h : ∀ H c, H.get? l = some (lobj (vs.setIfInBounds k v) c) → (∀ b o, b ≠ l → s.heap.get? b = some o → H.get? b = some o) → Q () { s with heap := H }) : W G A (setItem (.ref l) (.int (k : Int) t) v) Q s := by
  refine PySem.W.ki_setAt hg (Int.natCast_nonneg k) (by omega) (by omega) ?_
  obtain ⟨c, hc⟩ := upd_list (·.setIfInBounds ((k : Int)).toNat v) hg
  exact h _ c (by simpa using hc) fun b o hb e => upd_keep _ hb e
theorem dAll_ints {xs : List D} (h : ∀ d ∈ xs, ∃ i, d = .int i) : dAll (deepB 5) xs = true := by
  induction xs with
  | nil => rfl
  | cons a r ih =>
    obtain ⟨i, rfl⟩ := h a (.head _)
    unfold dAll
    rw [show deepB 5 (.int i) = true from rfl]
    exact ih fun d hd => h d (.tail _ hd)
theorem ints_rd {U : AS} {h : Heap} : ∀ {vs : List Value}, (∀ v ∈ vs, ∃ x : Nat, ∃ t, v = .int x t) → ∃ xs : List D, Rds U h vs xs ∧ (∀ d ∈ xs, ∃ i, d = .int i)
  | [], _ => ⟨[], .nil, fun _ q => nomatch q⟩
  | v :: vs, hv => by
    obtain ⟨x, t, rfl⟩ := hv v (.head _)
    obtain ⟨xs, h1, h2⟩ := ints_rd (U := U) (h := h) (vs := vs) fun v q => hv v (.tail _ q)
    exact ⟨_ :: xs, .cons (.int _ _) h1, fun d hd => by
      rcases List.mem_cons.mp hd with rfl | hd
      · exact ⟨_, rfl⟩
      · exact h2 d hd⟩
theorem fmod_nat (a m : Nat) : ((a : Int).fmod (m : Int)) = ((a % m : Nat) : Int) := by
  rw [Int.fmod_eq_emod_of_nonneg _ (Int.natCast_nonneg m)]
  exact (Int.natCast_emod a m).symm
theorem fdiv_nat (a m : Nat) : ((a : Int).fdiv (m : Int)) = ((a / m : Nat) : Int) := by
  rw [Int.fdiv_eq_ediv_of_nonneg _ (Int.natCast_nonneg m)]
  exact (Int.natCast_ediv a m).symm

noncomputable def takeFx (ab : Addr) (many : Nat) (tm : Tok) : Str → Option Value := fun x => (([Str.ofString "box", Str.ofString "many"] : List Str).zip [Value.ref ab, Value.int many tm]).lookup x
theorem take_ok {G : Gx} (O : G.Ok) (hD : ∀ d ∈ theDefs, d ∈ G.defs) : STake G 1 := by
  obtain ⟨a, o, pm, code, doc, h1, h2, h3, h4⟩ := O.T.fn _ (hD _ (dr_in (i := 47) (by kernel_rfl)))
  refine ⟨a, o, _, h1, h2, h3, ?_⟩
  intro A s ab al N many tm Q hA hR base B hN hm k
  have hck : fChk (dr 47).scope ["many", "box"] = true := by kernel_rfl
  refine call_entry (n := 0) (pn := ["box", "many"]) O hck (fun x hx => by simp at hx ⊢; exact hx.symm) (fun vs hv => by
    match vs, hv with
    | [v0, v1], _ => rfl) hA hR (base a o h2).1 h3 h4 (fun b o e => (base b o e).1) (vs := [.ref ab, .int many tm]) rfl fun s₁ I => ?_
  obtain ⟨n, tn, cb, hb, hn⟩ := B.box
  obtain ⟨vs, cl, hl, hsz, hvs⟩ := B.lst
  have ER := entry_rel (σ := [.val (.int many), .un]) (X := fun b => b = ab ∨ b = al) (U := fun b => b = ab ∨ b = al) (P := fun b => ∃ o, s.heap.get? b = some o) (pin := 1) (fx := takeFx ab many tm) O hA hR (fd := fdOf (dr 47) pm code doc) rfl rfl hck (pn := ["box", "many"]) (vs := [.ref ab, .int many tm]) rfl I
    (fun b o e => ⟨(base b o e).1, ⟨o, (base b o e).1⟩, fun q => q.elim (base b o e).2.1 (base b o e).2.2⟩) (fun _ q => q) (fun b q => q.elim (fun e => ⟨_, e ▸ hb⟩) fun e => ⟨_, e ▸ hl⟩) (fun b q => q.elim (fun e => ⟨_, e ▸ hb⟩) fun e => ⟨_, e ▸ hl⟩) (fun _ q => q) (fun _ q => .inl q) rfl (by decide) (fun i y sl hy hs => by
      match i, hy, hs with
      | 0, hy, hs =>
        simp at hy hs
        subst hy hs
        exact .inr ⟨.int many tm, by simp, .int many tm, rfl, .int _ _⟩
      | 1, hy, hs => simp at hs; exact .inl hs.symm
      | i + 2, hy, hs => simp at hy) (fun i y hi hy => rfl) (fun i j y z es fs b _ _ hi hj _ _ => by
      match i, hi with
      | 0, hi => simp at hi
      | 1, hi => simp at hi
      | i + 2, hi => simp at hi)
  obtain ⟨OC, R⟩ := ER
  have HB : HasBox (fCx G A (fdOf (dr 47) pm code doc) s.heap.objs.size a ["many", "box"] 0 1 (takeFx ab many tm)) 1 "box" ab := ⟨rfl, Nat.le_refl _, rfl⟩
  have hb1 := I.toInCall.keep _ _ hb
  have hl1 := I.toInCall.keep _ _ hl
  have kp1 : ∀ b o, s.heap.get? b = some o → s₁.heap.get? b = some o := I.toInCall.keep
  have sh1 := I.toInCall.same
  -- box[1] = box[1] + 1
  refine wpAny_execs_cons (wpAny_Assign_Subscript (wpAny_BinOp (box_item OC HB R (k := 1) hb1 (by decide) rfl fun tk => ?_)) (by kernel_rfl))
  refine wpAny_Constant_int (PyProof.Rows.add_int ?_)
  refine box_name OC HB (R.keeps (keeps_tok s₁ _)) (wpAny_Constant_int ?_)
  refine set_at (k := 1) hb1 (by simp) (by decide) fun H2 cb2 hb2 kp2 => ?_
  have hb2 : ∃ t2, H2.get? ab = some (lobj #[.ref al, .int ((n + 1 : Nat) : Int) t2] cb2) := ⟨_, hb2⟩
  obtain ⟨t2, hb2⟩ := hb2
  have hal2 : H2.get? al = some (lobj vs cl) := kp2 _ _ B.ne.symm hl1
  have R₂ : ∀ tk, Rel (fCx G A (fdOf (dr 47) pm code doc) s.heap.objs.size a ["many", "box"] 0 1 (takeFx ab many tm)) (fun b => b = ab ∨ b = al) (fun b => ∃ o, s.heap.get? b = some o) (fun b => b = ab ∨ b = al) [.val (.int many), .un] { s₁ with heap := H2, toks := tk } := fun tk =>
    R.forbid (fun b o q e => kp2 b o (fun z => q (.inl z)) e) fun b q => q.elim (fun e => ⟨_, e ▸ hb2⟩) fun e => ⟨_, e ▸ hal2⟩
  have kpA : ∀ b o, b ≠ ab → s.heap.get? b = some o → H2.get? b = some o := fun b o hb e => kp2 b o hb (kp1 b o e)
  have modE : ∀ x : Nat, x % many < many := fun x => Nat.mod_lt _ hm
  have mne : ((many : Nat) : Int) ≠ 0 := by omega
  -- if box[0] != []
  obtain ⟨xs, hxs, hxi⟩ := ints_rd (U := fun _ => False) (h := H2) hvs
  refine wpAny_execs_cons (wpAny_If (wpAny_isTrue_Compare1 (box_item OC HB (R₂ _) (k := 0) hb2 (by decide) rfl fun tk3 => ?_)))
  · refine SO_list (C := fCx G A (fdOf (dr 47) pm code doc) s.heap.objs.size a ["many", "box"] 0 1 (takeFx ab many tm)) SL_nil _ _ _ _ _ _ (R₂ tk3) [] rfl fun a' ws c s₃ K₃ hn3 hg3 hr3 => ?_
    have hr3' : Rd (fun _ => False) s₃.heap (.ref a') (.list []) := .list (fun q => q) hg3 (hr3.sub fun _ q => q.elim)
    have hal3 := keeps_get K₃ _ _ hal2
    have hra : Rd (fun _ => False) s₃.heap (.ref al) (.list xs) := .list (fun q => q) hal3 (hxs.kept (keeps_get K₃))
    have hdp : deepB 6 (.list xs) = true := dAll_ints hxi
    refine op_ne G 0 _ (fun _ => False) _ _ _ _ _ (.bool (!dEqB 6 (.list xs) (.list []))) _ OC.hd OC.room hra hr3' (by unfold dNe; rw [hdp]) fun v' s₄ K₄ r4 => ?_
    refine truth_of r4 rfl fun s₅ K₅ => ?_
    have K35 := keeps_trans K₃ (keeps_trans K₄ K₅)
    have R₅ := (R₂ tk3).keeps K35
    have R5t : ∀ tk, Rel (fCx G A (fdOf (dr 47) pm code doc) s.heap.objs.size a ["many", "box"] 0 1 (takeFx ab many tm)) (fun b => b = ab ∨ b = al) (fun b => ∃ o, s.heap.get? b = some o) (fun b => b = ab ∨ b = al) [.val (.int many), .un] { s₅ with toks := tk } := fun tk => R₅.keeps (keeps_tok s₅ tk)
    have hb5 : s₅.heap.get? ab = some (lobj #[.ref al, .int ((n + 1 : Nat) : Int) t2] cb2) := keeps_get K35 _ _ hb2
    have hl5 : s₅.heap.get? al = some (lobj vs cl) := keeps_get K35 _ _ hal2
    have kp5 : ∀ b o, b ≠ ab → s.heap.get? b = some o → s₅.heap.get? b = some o := fun b o hb e => keeps_get K35 b o (kpA b o hb e)
    have sh5 : ∃ h' tk, s₅ = { s with heap := h', toks := tk } := shape_trans (shape_trans sh1 ⟨H2, tk3, rfl⟩) (keeps_shape K35)
    have many_at : ∀ {pos : Pos} {s₆ : Shared} {Q' : Value → Shared → Prop}, Rel (fCx G A (fdOf (dr 47) pm code doc) s.heap.objs.size a ["many", "box"] 0 1 (takeFx ab many tm)) (fun b => b = ab ∨ b = al) (fun b => ∃ o, s.heap.get? b = some o) (fun b => b = ab ∨ b = al) [.val (.int many), .un] s₆ →
        (∀ t s', Keeps s₆ s' → Q' (.int many t) s') → W G (A.deeper (callEnvC (fdOf (dr 47) pm code doc) s.heap.objs.size a)) (eval (.Name "many" pos) (callEnvC (fdOf (dr 47) pm code doc) s.heap.objs.size a)) Q' s₆ := fun {pos s₆ Q'} R₆ q =>
      SE_var OC (i := 0) rfl _ _ _ _ _ _ R₆ (.int many) rfl fun v s' K r => by cases r; exact q _ _ K
    cases xs with
    | nil =>
      simp only [dEqB, dEqL, Bool.not_true, Bool.false_eq_true, if_false]
      refine wpAny_execs_nil ?_
      -- return (7 * box[1] + box[1] // 3) % many
      refine wpAny_execs_cons (wpAny_Return_some (wpAny_BinOp (wpAny_BinOp (wpAny_BinOp (wpAny_Constant_int ?_)))))
      refine box_item (s := { s₅ with toks := s₅.toks + 1 }) OC HB (R5t (s₅.toks + 1)) (k := 1) hb5 (by decide) rfl fun tk6 => ?_
      refine PyProof.Rows.mul_int ?_ (IntMulOk.of_left (bits60 (by decide)))
      refine wpAny_BinOp (box_item (s := { s₅ with toks := tk6 + 1 }) OC HB (R5t (tk6 + 1)) (k := 1) hb5 (by decide) rfl fun tk7 => ?_)
      refine wpAny_Constant_int (floordiv_int (by decide) ?_ (.inl (PyProof.noPylong_small (by decide))))
      refine PyProof.Rows.add_int ?_
      refine many_at (R5t _) fun t9 s₉ K₉ => ?_
      refine mod_int' mne ?_
      have ev : ((7 : Int) * ((n + 1 : Nat) : Int) + ((n + 1 : Nat) : Int).fdiv 3).fmod (many : Int) = (((7 * (n + 1) + (n + 1) / 3) % many : Nat) : Int) := by
        rw [show ((n + 1 : Nat) : Int).fdiv 3 = (((n + 1) / 3 : Nat) : Int) from fdiv_nat (n + 1) 3, ← fmod_nat]
        norm_cast
      rw [ev]
      refine k _ _ _ (modE _) (shape_trans sh5 (shape_trans ⟨_, _, rfl⟩ (shape_trans (keeps_shape K₉) ⟨_, _, rfl⟩))) (fun b o hb _ e => keeps_get K₉ b o (kp5 b o hb e)) ⟨B.ne, ⟨n + 1, t2, cb2, keeps_get K₉ _ _ hb5, by omega⟩, ⟨vs, cl, keeps_get K₉ _ _ hl5, hsz, hvs⟩⟩
    | cons d ds =>
      simp only [dEqB, dEqL, Bool.not_false, if_true]
      have hlen := hxs.length
      obtain ⟨w, hw⟩ : ∃ w, vs[0]? = some w := by
        have : 0 < vs.size := by simp at hlen; omega
        exact ⟨_, Array.getElem?_eq_getElem this⟩
      obtain ⟨x, tx, rfl⟩ := hvs w (by
        have := Array.mem_of_getElem? hw
        simpa using this)
      -- return box[0].pop(0) % many
      refine wpAny_execs_cons (wpAny_Return_some (wpAny_BinOp (wpAny_Call_method (T := "list") (id := "list.pop") (by rfl) rfl rfl F.plainAttrs_list F.slot_list_pop F.type_list_pop (box_item OC HB R₅ (k := 0) hb5 (by decide) rfl fun tk6 => ?_))))
      refine ⟨⟨_, hl5, rfl⟩, fun b hb => by cases hb; exact ⟨_, hl5, rfl⟩, ?_⟩
      show wpAny _ _ (callWith _ (.builtin "list.pop") [.ref al] [(false, eval (.Constant (.int 0) 0 ⟨262, 26, 262, 27⟩) (callEnvC (fdOf (dr 47) pm code doc) s.heap.objs.size a))] []) _ _ _
      refine PySem.P.pop_at_list (wpAny_Constant_int ⟨vs, cl, 0, _, 0, .int x tx, by rw [sl]; omega, rfl, hl5, by decide, ?_, hw, ?_⟩)
      · have : 0 < vs.size := by simp at hlen; omega
        exact seqIndex_of (by decide) (by omega)
      obtain ⟨c8, hc8⟩ := upd_list (fun xs => xs.eraseIdxIfInBounds 0) hl5
      have kp8 : ∀ b o, b ≠ al → s₅.heap.get? b = some o → (s₅.heap.update al (Obj.mapSeq fun xs => xs.eraseIdxIfInBounds 0)).get? b = some o := fun b o hb e => upd_keep _ hb e
      generalize (s₅.heap.update al (Obj.mapSeq fun xs => xs.eraseIdxIfInBounds 0)) = H8 at hc8 kp8 ⊢
      have hb8 := kp8 _ _ B.ne hb5
      refine many_at (R₅.forbid (fun b o q e => kp8 b o (fun z => q (.inr z)) e) fun b q => q.elim (fun e => ⟨_, e ▸ hb8⟩) fun e => ⟨_, e ▸ hc8⟩) fun t9 s₉ K₉ => ?_
      refine mod_int' mne ?_
      rw [fmod_nat]
      refine k _ _ _ (modE _) (shape_trans sh5 (shape_trans ⟨H8, _, rfl⟩ (shape_trans (keeps_shape K₉) ⟨_, _, rfl⟩))) (fun b o hb hb' e => keeps_get K₉ b o (kp8 b o hb' (kp5 b o hb e))) ⟨B.ne, ⟨n + 1, t2, cb2, keeps_get K₉ _ _ hb8, by omega⟩, ⟨_, _, keeps_get K₉ _ _ hc8, ?_, fun v hv => hvs v ?_⟩⟩
      · rw [← Array.length_toList, Array.toList_eraseIdxIfInBounds, List.length_eraseIdx, Array.length_toList]
        split <;> omega
      · rw [Array.toList_eraseIdxIfInBounds] at hv
        exact List.mem_of_mem_eraseIdx hv
end Pf

namespace Pf
open PySem PySem.Calls PyProof.Rows PySem.W

/- ---- [_law_take(box, p) for at in range(3)] ---- -/
theorem cell_name {C : Cx} (O : C.Ok) {x : Str} {c : Addr} (hm : x ∈ C.names) (hc : C.env.cells.lookup x = some c) (hl : C.env.kindOf x ≠ some .local) {s : Shared} {v : Value} (hv : s.heap.IsCell c (some v)) {pos : Pos} {Q : Value → Shared → Prop} (h : Q v s) : W C.G C.A (eval (.Name x pos) C.env) Q s := by
  obtain ⟨h1, h2, h3⟩ := O.var x hm
  refine wpAny_Name ?_ h1
  rcases h3 with q | ⟨q | q, _⟩
  · exact absurd q hl
  · exact wpAny_loadName_cell O.kind q hc hv h
  · exact wpAny_loadName_free O.kind q hc hv h h2
structure DrawCx (C : Cx) (ip : Nat) (cB : Addr) : Prop where
  hp : C.names[ip]? = some "p"
  hm : Str.ofString "box" ∈ C.names
  hc : C.env.cells.lookup (Str.ofString "box") = some cB
  hl : C.env.kindOf "box" ≠ some .local
  hk : C.env.kindOf "_law_take" = some .globalImplicit
noncomputable def Bx (X : AS) (D ab al cB : Addr) (N : Nat) (s : Shared) : Prop := X D ∧ X ab ∧ X al ∧ D ≠ ab ∧ D ≠ al ∧ BoxOk ab al N s.heap ∧ s.heap.IsCell cB (some (.ref ab))
theorem draw_emit {C : Cx} (O : C.Ok) {ip : Nat} {cB : Addr} (DC : DrawCx C ip cB) (ST : STake C.G 1) (hlv : 1 ≤ C.lv) {D ab al : Addr} {p : Nat} (hp0 : 0 < p) {fp bp pp cp : Pos} {X P U : AS} {σ : St} {s : Shared} (R : Rel C X P U σ s) {N : Nat} (hN : N ≤ 1000) (B : Bx X D ab al cB N s)
    {vs : Array Value} {n : Nat} {ds : List Pf.D} (hσ : σ[ip]? = some (.val (.int p))) (hD : s.heap.get? D = some (lobj vs n)) (hr : Rds X s.heap vs.toList ds) (hsz : ds.length ≤ 1000) {k : Sem Fin} {Q : Fin → Shared → Prop}
    (kk : ∀ s' vs' n' (c : Nat), c < p → (∃ h' tk, s' = { s with heap := h', toks := tk }) → (∀ b o, b ≠ D → b ≠ ab → b ≠ al → s.heap.get? b = some o → s'.heap.get? b = some o) → s'.heap.get? D = some (lobj vs' n') → Rds X s'.heap vs'.toList (ds ++ [.int c]) → Bx X D ab al cB (N + 1) s' → Rel C X P U σ s' → W C.G C.A k Q s') :
    W C.G C.A (emitT (.Call (.Name "_law_take" fp) [.Name "box" bp, .Name "p" pp] [] cp) D C.env >>= fun _ => k) Q s := by
  obtain ⟨xD, xa, xl, na, nl, B1, B2⟩ := B
  obtain ⟨a, o, fd, h1, h2, h3, h4⟩ := ST
  refine wpAny_bind (wpAny_bind ?_)
  refine wpAny_Call_NameR (ld_glob O R DC.hk h1 ?_ (by decide))
  refine callWith_function (o := o) (fd := fd) (evalArgs_ns starEach_ne rfl ?_)
  show W C.G C.A (spliced [(false, eval (.Name "box" bp) C.env), (false, eval (.Name "p" pp) C.env)]) _ s
  refine spliced_cons (cell_name O DC.hm DC.hc DC.hl B2 (spliced_cons (SE_var O DC.hp _ _ _ _ _ _ R (.int p) (by unfold eVar; rw [hσ]) fun v s₁ K r => spliced_nil ?_)))
  cases r
  have R₁ := R.keeps K
  have kg := keeps_get K
  refine ⟨⟨kg _ _ (R.base _ _ h2).1, h3⟩, ?_⟩
  refine h4 C.A s₁ ab al N p _ _ O.hd (O.room.mono hlv) (fun b o e => ?_) (B1.kept (fun o e => kg _ _ e) fun o e => kg _ _ e) hN hp0 fun r t s₂ hrp sh kp B3 => ?_
  · obtain ⟨q1, q2, q3⟩ := R₁.base b o e
    exact ⟨q1, fun z => q3 (z ▸ xa), fun z => q3 (z ▸ xl)⟩
  have hD2 := kp _ _ na nl (kg _ _ hD)
  have hl := hr.length
  simp only [Array.length_toList] at hl
  refine wpAny_bind (wpAny_list_append_plain (items := vs) ⟨n, hD2⟩ (fun h' hp hs => ?_) (by rw [sl]; omega))
  obtain ⟨n', hp⟩ := hp
  have hk : ∀ b o, b ≠ D → s₂.heap.get? b = some o → h'.get? b = some o := fun b o hb e => hs.extBut b o hb e
  have kall : ∀ b o, b ≠ D → b ≠ ab → b ≠ al → s.heap.get? b = some o → h'.get? b = some o := fun b o n1 n2 n3 e => hk b o n1 (kp b o n2 n3 (kg b o e))
  have B4 : BoxOk ab al (N + 1) h' := B3.kept (fun o e => hk _ _ na.symm e) fun o e => hk _ _ nl.symm e
  have cellne : ∀ a, (∃ vs n, s.heap.get? a = some (lobj vs n)) → cB ≠ a := fun a ⟨vs, n, e⟩ q => by
    obtain ⟨o, ho, hd⟩ := B2
    rw [q, e] at ho; cases ho; cases hd
  have hbo : ∃ vs n, s.heap.get? ab = some (lobj vs n) := by obtain ⟨_, _, _, e, _⟩ := B1.box; exact ⟨_, _, e⟩
  have hlo : ∃ vs n, s.heap.get? al = some (lobj vs n) := by obtain ⟨_, _, e, _⟩ := B1.lst; exact ⟨_, _, e⟩
  refine wpAny_pure (kk _ _ n' r hrp (shape_trans (keeps_shape K) (shape_trans sh ⟨h', s₂.toks, rfl⟩)) kall hp ?_ ⟨xD, xa, xl, na, nl, B4, ?_⟩ ?_)
  · have m1 : Rds X h' vs.toList ds := hr.mono (fun _ q => q) fun b o q e => kall b o (fun z => q (z ▸ xD)) (fun z => q (z ▸ xa)) (fun z => q (z ▸ xl)) e
    simpa using m1.append (.cons (.int _ _) .nil)
  · obtain ⟨o, ho, hd⟩ := B2
    exact ⟨o, kall _ _ (cellne _ ⟨_, _, hD⟩) (cellne _ hbo) (cellne _ hlo) ho, hd⟩
  · refine R.forbid (s' := { s₂ with heap := h' }) (fun b o q e => kall b o (fun z => q (z ▸ xD)) (fun z => q (z ▸ xa)) (fun z => q (z ▸ xl)) e) fun b q => ?_
    by_cases e1 : b = D
    · exact ⟨_, e1 ▸ hp⟩
    by_cases e2 : b = ab
    · obtain ⟨_, _, _, e, _⟩ := B4.box; exact ⟨_, e2 ▸ e⟩
    by_cases e3 : b = al
    · obtain ⟨_, _, e, _⟩ := B4.lst; exact ⟨_, e3 ▸ e⟩
    obtain ⟨o, e⟩ := R.ul b (R.xu b q)
    exact ⟨o, kall b o e1 e2 e3 e⟩

theorem draw_loop {C : Cx} (O : C.Ok) {ip : Nat} {cB : Addr} (DC : DrawCx C ip cB) (ST : STake C.G 1) (hlv : 1 ≤ C.lv) {D I ab al : Addr} {p : Nat} (hp0 : 0 < p) {fp bp pp cp : Pos} {elt : Expr} {gens : List Comprehension} {scope : Scope} {pos ipos : Pos} {depth : Nat} {target : Expr} {wr : List Addr} {Z : AS}
    {Sta : List Pf.D → Heap → Prop} {Mid : Value → List Pf.D → Heap → Prop} {okT : Expr → Bool} {it : Nat} (helt : elt = .Call (.Name "_law_take" fp) [.Name "box" bp, .Name "p" pp] [] cp)
    (hform : compTurn (.ListComp elt gens scope pos) depth (.ref I) (.ref D) C.env = turnForm target [] ipos (.ref I) C.env (fun k => emitT elt D C.env >>= fun _ => k) (again (.compLoop (.ListComp elt gens scope pos) depth (.ref I) (.ref D) C.env)))
    (T : It C.G C.A Z I wr okT Sta Mid) (hok : okT target = true) (hT : TG C target (gName it)) (hit : it ≠ ip)
    {X P U : AS} {σ : St} {s : Shared} {vs : Array Value} {n : Nat} {ds rest : List Pf.D} {R : Result → Shared → Prop} (hR : Rel C X P U σ s) {N : Nat} (hN : N + rest.length ≤ 1000) (B : Bx X D ab al cB N s) (wD : D ∉ wr) (wa : ab ∉ wr) (wl : al ∉ wr) (wc : cB ∉ wr) (pc : P cB) (xw : ∀ b ∈ wr, X b) (zp : ∀ b, Z b → P b) (zx : ∀ b, Z b → ¬ X b) (hσ : σ[ip]? = some (.val (.int p)))
    (st : Sta rest s.heap) (hD : s.heap.get? D = some (lobj vs n)) (hr : Rds X s.heap vs.toList ds) (hsz : ds.length + rest.length ≤ 1000)
    (k : ∀ s' vs' n' (cs : List Nat), cs.length = rest.length → (∀ c ∈ cs, c < p) → (∃ h' tk, s' = { s with heap := h', toks := tk }) → (∀ b o, P b → b ≠ D → b ≠ ab → b ≠ al → b ∉ wr → s.heap.get? b = some o → s'.heap.get? b = some o) → (∃ sm U' σ', Rel C X P U' σ' sm ∧ ∀ b o, b ∉ wr → sm.heap.get? b = some o → s'.heap.get? b = some o) → s'.heap.get? D = some (lobj vs' n') → Rds X s'.heap vs'.toList (ds ++ cs.map fun (c : Nat) => .int c) → BoxOk ab al (N + rest.length) s'.heap → R (.ok .next) s') :
    codeAny (model C.G.prog C.G.w) C.A (.compLoop (.ListComp elt gens scope pos) depth (.ref I) (.ref D) C.env) R s := by
  subst helt
  obtain ⟨xD, xa, xl, na, nl, B1, B2⟩ := B
  refine codeAny_loop rfl (fun j s' => ∃ rest' σk Uk vs n cs, j = rest'.length ∧ rest'.length + cs.length = rest.length ∧ (∀ c ∈ cs, c < p) ∧ Sta rest' s'.heap ∧ Rel C X P Uk σk s' ∧ σk[ip]? = some (.val (.int p)) ∧ s'.heap.get? D = some (lobj vs n) ∧ Rds X s'.heap vs.toList (ds ++ cs.map fun (c : Nat) => .int c) ∧
    Bx X D ab al cB (N + cs.length) s' ∧ (∃ h' tk, s' = { s with heap := h', toks := tk }) ∧ (∀ b o, P b → b ≠ D → b ≠ ab → b ≠ al → b ∉ wr → s.heap.get? b = some o → s'.heap.get? b = some o)) ?_ rest.length
    ⟨rest, σ, U, vs, n, [], rfl, by simp, (fun _ q => nomatch q), st, hR, hσ, hD, by simpa using hr, ⟨xD, xa, xl, na, nl, B1, B2⟩, ⟨_, _, rfl⟩, fun _ _ _ _ _ _ _ e => e⟩
  rintro j s₂ ⟨rest', σk, Uk, vs, n, cs, rfl, hlen, hcs, sta, Rk, hσk, hD, hr, B, sh, kp⟩
  show wpAny _ C.A ((compTurn _ depth (.ref I) (.ref D) C.env).onRaise (fun x => do noteFrame x C.env; theTreesLotGoes x)) _ _ s₂
  refine wpAny_noted ?_
  rw [hform]
  unfold turnForm
  have fb : ∀ {σk Uk s₂ h' tk}, Rel C X P Uk σk s₂ → (∀ b o, b ∉ wr → s₂.heap.get? b = some o → h'.get? b = some o) → (∀ b ∈ wr, ∃ o, h'.get? b = some o) → Rel C X P Uk σk { s₂ with heap := h', toks := tk } :=
    fun {σk Uk s₂ h' tk} Rk hk' al => Rk.forbid (s' := { s₂ with heap := h', toks := tk }) (fun b o q e => hk' b o (fun w => q (xw b w)) e) fun b q => by
      by_cases w : b ∈ wr
      · exact al b w
      · obtain ⟨o, e⟩ := Rk.ul b (Rk.xu b q); exact ⟨o, hk' b o w e⟩
  have fr : ∀ {h h' : Heap} {ws : List Value} {ds : List Pf.D}, Rds X h ws ds → (∀ b o, b ∉ wr → h.get? b = some o → h'.get? b = some o) → Rds X h' ws ds := fun r hk' => r.mono (fun _ q => q) fun b o q e => hk' b o (fun w => q (xw b w)) e
  have fx : ∀ {M : Nat} {s₂ : Shared} {h' : Heap} {tk : Nat}, Bx X D ab al cB M s₂ → (∀ b o, b ∉ wr → s₂.heap.get? b = some o → h'.get? b = some o) → Bx X D ab al cB M { s₂ with heap := h', toks := tk } := fun {M s₂ h' tk} B hk' => by
    obtain ⟨_, _, _, _, _, B1, ⟨o, ho, hd⟩⟩ := B
    exact ⟨xD, xa, xl, na, nl, B1.kept (fun o e => hk' _ _ wa e) (fun o e => hk' _ _ wl e), ⟨o, hk' _ _ wc ho, hd⟩⟩
  refine wpAny_bind (wpAny_standAt (wpAny_bind ?_))
  cases rest' with
  | nil =>
    have hcl : cs.length = rest.length := by simpa using hlen
    refine W.any (T.done s₂ _ sta fun h' tk hk' => wpAny_pure ?_)
    have B' := fx (tk := tk) B hk'
    exact k _ vs n cs hcl hcs (shape_trans sh ⟨h', tk, rfl⟩) (fun b o p n1 n2 n3 n4 e => hk' b o n4 (kp b o p n1 n2 n3 n4 e)) ⟨s₂, Uk, σk, Rk, hk'⟩ (hk' _ _ wD hD) (fr hr hk') (hcl ▸ B'.2.2.2.2.2.1)
  | cons d rest' =>
    refine W.any (T.item d rest' s₂ _ sta fun v h₃ tk₃ hk₃ hv mid => ?_)
    have R₃ := fb (tk := tk₃) Rk hk₃ (T.aliveM _ _ _ mid)
    have hvU : Rd Uk h₃ v d := hv Uk (fun a q z => (Rk.pu a q).elim (zx a z) fun y => y (zp a z)) Rk.ul
    refine wpAny_bind (W.any (T.go target v rest' _ _ hok mid fun h₄ hk₄ sta₄ => ?_))
    have R₄ := fb (tk := tk₃) R₃ hk₄ (T.alive _ _ sta₄)
    have hv₄ : Rd Uk h₄ v d := hvU.mono (fun _ q => q) fun b o q e => hk₄ b o (fun w => q (Rk.xu b (xw b w))) e
    refine wpAny_bind (W.any (hT _ _ Uk σk _ v d _ _ R₄ hv₄ rfl fun s₅ u => ?_))
    obtain ⟨u1, u2, R₅⟩ := u
    have k45 : ∀ b o, Z b ∨ b ∈ wr → h₄.get? b = some o → s₅.heap.get? b = some o := fun b o q e => u2.kp b o (q.elim (zp b) fun w => R₅.xp b (xw b w)) e
    have sta₅ : Sta rest' s₅.heap := T.frame _ _ _ sta₄ k45
    have kp₅ : ∀ b o, P b → b ≠ D → b ≠ ab → b ≠ al → b ∉ wr → s.heap.get? b = some o → s₅.heap.get? b = some o := fun b o p n1 n2 n3 n4 e => u2.kp b o p (hk₄ b o n4 (hk₃ b o n4 (kp b o p n1 n2 n3 n4 e)))
    have sh₅ : ∃ h' tk, s₅ = { s with heap := h', toks := tk } := shape_trans (shape_trans sh ⟨h₄, tk₃, rfl⟩) u1
    have hD₅ : s₅.heap.get? D = some (lobj vs n) := u2.kp _ _ (R₅.xp _ xD) (hk₄ _ _ wD (hk₃ _ _ wD hD))
    have hr₅ : Rds X s₅.heap vs.toList (ds ++ cs.map fun (c : Nat) => .int c) := (fr (fr hr hk₃) hk₄).quiet u2.kq
    have B₄ := fx (tk := tk₃) (fx (tk := tk₃) B hk₃) hk₄
    have B₅ : Bx X D ab al cB (N + cs.length) s₅ := by
      obtain ⟨_, _, _, _, _, B1, ⟨o, ho, hd⟩⟩ := B₄
      exact ⟨xD, xa, xl, na, nl, B1.kept (fun o e => u2.kp _ _ (R₅.xp _ xa) e) (fun o e => u2.kp _ _ (R₅.xp _ xl) e), ⟨o, u2.kp _ _ pc ho, hd⟩⟩
    have hσ₅ : (σk.set it (.val d))[ip]? = some (.val (.int p)) := by rw [List.getElem?_set_ne hit]; exact hσk
    refine wpAny_bind (wpAny_tests_nil ?_)
    simp only [if_true]
    have hcl : (d :: rest').length + cs.length = rest.length := hlen
    simp only [List.length_cons] at hcl
    refine W.any (draw_emit O DC ST hlv hp0 R₅ (by omega) B₅ hσ₅ hD₅ hr₅ (by simp; omega) fun s₆ vs' n' c hc sh₆ kp₆ hD₆ hr₆ B₆ R₆ => ?_)
    refine wpAny_pure ⟨rfl, rest'.length, Nat.lt_succ_self _, rest', _, Uk, vs', n', cs ++ [c], rfl, by simp; omega, fun c' hm => ?_, ?_, R₆, hσ₅, hD₆, by simpa using hr₆, by simpa [Nat.add_assoc] using B₆, shape_trans sh₅ sh₆, fun b o p n1 n2 n3 n4 e => kp₆ b o n1 n2 n3 (kp₅ b o p n1 n2 n3 n4 e)⟩
    · rcases List.mem_append.mp hm with hm | hm
      · exact hcs c' hm
      · simp at hm; exact hm ▸ hc
    · refine T.frame _ _ _ sta₅ fun b o q e => kp₆ b o (fun z => ?_) (fun z => ?_) (fun z => ?_) e
      · exact q.elim (fun q => zx b q (z ▸ xD)) fun q => wD (z ▸ q)
      · exact q.elim (fun q => zx b q (z ▸ xa)) fun q => wa (z ▸ q)
      · exact q.elim (fun q => zx b q (z ▸ xl)) fun q => wl (z ▸ q)
end Pf

namespace Pf
open PySem PySem.Calls PyProof.Rows PySem.W

theorem comp_cell {C : Cx} {scope : Scope} {names : List Str} {ro : Nat} {fi : List Nat} (H : CChk scope C.env.scope C.names names ro fi) {x : Str} {c : Addr} (hx : scope.names.lookup x = some .free) (hc : C.env.cells.lookup x = some c) {L : Addr} : (cEnv C.env scope L).cells.lookup x = some c := by
  show (cellsFrom (L + 1) scope.names _).lookup x = _
  rw [cellsFrom_app, lookup_app, cellsFrom_none _ _ _ (fun q => by rw [nodup_lookup H.keys q] at hx; cases hx), closeL_lookup, if_pos (lookup_mem hx), hc]
  rfl
theorem draw_comp {C : Cx} (O : C.Ok) {ib ip it : Nat} {ab al : Addr} (HB : HasBox C ib (Str.ofString "box") ab) (ST : STake C.G 1) (hlv : 1 ≤ C.lv) {target iter : Expr} {fp bp pp cp : Pos} {scope es : Scope} {pos : Pos} {okT : Expr → Bool} {mI : Fl} {cn names : List Str} {ro : Nat} {fi : List Nat}
    (hes : C.env.scope = es) (hcn : C.names = cn) (hchk : cChk scope es cn names ro fi = true) (hI : SI C iter okT mI) (hnl : es.names.lookup (Str.ofString "box") ≠ some .local) (hbf : scope.names.lookup (Str.ofString "box") = some .free) (htk : scope.names.lookup (Str.ofString "_law_take") = some .globalImplicit) (hbn : Str.ofString "box" ∈ names) (hpn : names[ip]? = some "p")
    (hok : okT target = true) (hit : it ≠ ip) (hT : ∀ L, (cCx C scope L names ro).Ok → TG (cCx C scope L names ro) target (gName it))
    {X P U : AS} {σ : St} {s : Shared} {N p : Nat} {items : List D} (R : Rel C X P U σ s) (xa : X ab) (xl : X al) (B : BoxOk ab al N s.heap) (hN : N + items.length ≤ 1000) (hp0 : 0 < p) (hm : mI σ = some items) (hσ : (cInit σ ro fi)[ip]? = some (.val (.int p))) {Q : Value → Shared → Prop}
    (k : ∀ b vs n s' (cs : List Nat), cs.length = items.length → (∀ c ∈ cs, c < p) → (∃ h' tk, s' = { s with heap := h', toks := tk }) → (∀ b o, b ≠ ab → b ≠ al → s.heap.get? b = some o → s'.heap.get? b = some o) → s.heap.get? b = none → s'.heap.get? b = some (lobj vs n) → Rds (fun _ => False) s'.heap vs.toList (cs.map fun (c : Nat) => .int c) → BoxOk ab al (N + items.length) s'.heap → Q (.ref b) s')
    (hs : ∀ x, foldedSetIterable iter C.env x = pure x := by intro _; rfl) :
    W C.G C.A (eval (.ListComp (.Call (.Name "_law_take" fp) [.Name "box" bp, .Name "p" pp] [] cp) [⟨target, iter, [], 0⟩] scope pos) C.env) Q s := by
  subst hes hcn
  have H := cChk_ok hchk
  obtain ⟨cB, hcB⟩ : ∃ cB, C.env.cells.lookup (Str.ofString "box") = some cB := by
    rcases (O.var _ (List.mem_of_getElem? HB.hx)).2.2 with h | ⟨_, c, hc⟩
    · exact absurd h hnl
    · exact ⟨c, hc⟩
  have cellB : ∀ {X P U σ s}, Rel C X P U σ s → s.heap.IsCell cB (some (.ref ab)) := fun {X P U σ s} R => by
    obtain ⟨ρ, V⟩ := R.vars
    have := V.fr.cell _ cB (List.mem_of_getElem? HB.hx) hnl hcB
    rw [(V.fx ib _ HB.pin HB.hx).trans HB.fx] at this
    exact this
  rw [eval_ListComp]
  refine wpAny_comprehension_free (use := none) (cl := closeL C.env.cells scope.names []) rfl hs (closureFor_is (free_lookup O H)) H.kind (fun x hx hl => nodup_lookup H.keys (hl ▸ hx)) ?_
  refine hI X P U σ s _ R items hm fun I wr Z Sta Mid s₂ K fr wz zl zu T st => ?_
  refine wpAny_newList ?_ (by decide)
  refine wp_newEnvC ?_
  have hBL : s₂.heap.objs.size < (s₂.heap.push { cls := .type "list", data := .seq ([] : List Value).toArray }).objs.size := by rw [Heap.size_push]; exact Nat.lt_succ_self _
  dsimp only
  generalize hH3 : s₂.heap.push { cls := .type "list", data := .seq ([] : List Value).toArray } = H3 at hBL ⊢
  have hB : s₂.heap.get? s₂.heap.objs.size = none := get_size_none _
  have k3 : ∀ b o, s₂.heap.get? b = some o → H3.get? b = some o := fun b o e => hH3 ▸ Heap.get?_push_of_some _ e
  have hB3 : H3.get? s₂.heap.objs.size = some (lobj #[] 0) := by rw [← hH3]; exact Heap.get?_push_size _ rfl
  have k4 : ∀ b o, H3.get? b = some o → (pushCells (H3.push { cls := .type "dict", data := .dict #[] }) scope.names).get? b = some o := fun b o e => pushCells_keeps _ _ b o (Heap.get?_push_of_some _ e)
  have ck := cellsFrom_ok scope.names (H3.push { cls := .type "dict", data := .dict #[] }) (H3.objs.size + 1) [] ⟨fun _ _ hm => (nomatch hm), List.Pairwise.nil⟩ (by rw [Heap.size_push]; exact Nat.le_refl _)
  rw [Heap.size_push] at ck
  have ns : (pushCells (H3.push { cls := .type "dict", data := .dict #[] }) scope.names).Ns H3.objs.size (fun _ => none) := (Heap.Ns.new H3 (.type "dict")).keeps (pushCells_keeps _ _)
  generalize pushCells (H3.push { cls := .type "dict", data := .dict #[] }) scope.names = H4 at k4 ck ns ⊢
  have wl := T.alive items s₂.heap st
  obtain ⟨O', R'⟩ := R.comp (s₂ := s₂) (s₄ := { s₂ with heap := H4 }) O K fr wl (B := s₂.heap.objs.size) (L := H3.objs.size) hB hBL (fun b o e => Nat.lt_trans (Heap.lt_size e) hBL) (fun b o e => k4 _ _ (k3 _ _ e)) ⟨_, k4 _ _ hB3⟩ ns ck H
  have kg := keeps_get K
  have k04 : ∀ b o, s.heap.get? b = some o → H4.get? b = some o := fun b o e => k4 _ _ (k3 _ _ (kg b o e))
  have nw : ∀ b o, s.heap.get? b = some o → b ∉ wr := fun b o e q => not_live' e (fr b q)
  have nB : ∀ b o, s.heap.get? b = some o → b ≠ s₂.heap.objs.size := fun b o e q => by rw [q] at e; rw [kg _ _ e] at hB; cases hB
  have hsB : s.heap.get? s₂.heap.objs.size = none := by
    cases e : s.heap.get? s₂.heap.objs.size with
    | none => rfl
    | some o => exact absurd rfl (nB _ o e)
  have hbo : ∃ o, s.heap.get? ab = some o := by obtain ⟨_, _, _, e, _⟩ := B.box; exact ⟨_, e⟩
  have hlo : ∃ o, s.heap.get? al = some o := by obtain ⟨_, _, e, _⟩ := B.lst; exact ⟨_, e⟩
  have hB4 : BoxOk ab al N H4 := B.kept (fun o e => k04 _ _ e) fun o e => k04 _ _ e
  have hcell := cellB R
  have DC : DrawCx (cCx C scope H3.objs.size names ro) ip cB := by
    refine ⟨hpn, hbn, comp_cell H hbf hcB, ?_, ?_⟩
    · show (cEnv C.env scope H3.objs.size).kindOf _ ≠ _
      rw [cEnv_kind, hbf]
      unfold relK
      simp only [Option.map_some]
      split <;> simp
    · show (cEnv C.env scope H3.objs.size).kindOf _ = _
      rw [cEnv_kind, htk]; rfl
  have go : codeAny (model C.G.prog C.G.w) C.A (.compLoop (.ListComp (.Call (.Name "_law_take" fp) [.Name "box" bp, .Name "p" pp] [] cp) [⟨target, iter, [], 0⟩] scope pos) 0 (.ref I) (.ref s₂.heap.objs.size) (cCx C scope H3.objs.size names ro).env) (fun r s' => compPost (model C.G.prog C.G.w) C.A (fun _ _ => False) none Q (.ref s₂.heap.objs.size) H3.objs.size r s') { s₂ with heap := H4 } := by
    refine draw_loop (C := cCx C scope H3.objs.size names ro) (cB := cB) (ip := ip) (ipos := iter.pos) O' DC ST hlv (ab := ab) (al := al) (p := p) hp0 (ds := []) (vs := #[]) (n := 0) rfl ?_ T hok (hT _ O') hit R' hN ⟨.inr (.inl rfl), .inl (R.xu _ xa), .inl (R.xu _ xl), ?_, ?_, hB4, ?_⟩ (fun q => ?_) ?_ ?_ ?_ ?_ (fun b q => .inr (.inr q)) (fun b q => ?_) (fun b q z => ?_) hσ (T.frame _ _ _ st fun b o q e => k4 _ _ (k3 _ _ e)) (k4 _ _ hB3) .nil (by simp; omega) fun s' vs' n' cs q0 qc q1 q2 R'' hD' hr' hB' => ?_
    · unfold compTurn turnForm
      dsimp only
      rfl
    · obtain ⟨o, e⟩ := hbo; exact (nB _ o e).symm
    · obtain ⟨o, e⟩ := hlo; exact (nB _ o e).symm
    · obtain ⟨o, ho, hd⟩ := hcell; exact ⟨o, k04 _ _ ho, hd⟩
    · obtain ⟨o, e⟩ := wl _ q
      rw [hB] at e; cases e
    · obtain ⟨o, e⟩ := hbo; exact nw _ o e
    · obtain ⟨o, e⟩ := hlo; exact nw _ o e
    · obtain ⟨o, ho, hd⟩ := hcell; exact nw _ o ho
    · obtain ⟨o, ho, hd⟩ := hcell; exact .inl ⟨o, kg _ _ ho⟩
    · obtain ⟨o, e, _⟩ := zl b q; exact .inl ⟨o, e⟩
    · rcases z with z | z | z
      · exact zu b q z
      · obtain ⟨o, e, _⟩ := zl b q
        rw [z, hB] at e; cases e
      · exact wz b z q
    · obtain ⟨sm, U', σ', R'', hkm⟩ := R''
      obtain ⟨ρ', V'⟩ := R''.vars
      obtain ⟨m', ⟨oL, eL, pL, hoL, rL⟩, _⟩ := V'.fr.ns
      have hn' : s'.heap.Ns H3.objs.size m' := ⟨oL, eL, pL, hkm _ _ (fun q => R''.pL (R''.xp _ (.inr (.inr q)))) hoL, rL⟩
      refine ⟨m', hn', fun h'' hs'' => ?_⟩
      have kL : ∀ b o, b ≠ H3.objs.size → s'.heap.get? b = some o → h''.get? b = some o := fun b o hb e => hs''.extBut b o hb e
      have neL : ∀ b o, s.heap.get? b = some o → b ≠ H3.objs.size := fun b o e q => by
        have := Heap.lt_size (kg _ _ e)
        rw [q] at this
        exact absurd (Nat.lt_trans this hBL) (Nat.lt_irrefl _)
      have nsq : ∀ b vs n, s'.heap.get? b = some (lobj vs n) → b ≠ H3.objs.size := fun b vs n e q => ns_not_sq hn' (q ▸ e) (Sq.l _ _)
      refine k _ vs' n' _ cs q0 qc ?_ (fun b o n1 n2 e => ?_) hsB (kL _ _ (Nat.ne_of_lt hBL) hD') ?_ ?_
      · exact shape_trans (keeps_shape K) (shape_trans ⟨H4, s₂.toks, rfl⟩ (shape_trans q1 ⟨h'', s'.toks, rfl⟩))
      · exact kL b o (neL b o e) (q2 b o (.inl ⟨o, kg _ _ e⟩) (nB b o e) n1 n2 (nw b o e) (k04 b o e))
      · have h1 : Rds (fun _ => False) s'.heap vs'.toList (cs.map fun (c : Nat) => .int c) := Rds.sub (by simpa using hr') fun _ q => q.elim
        exact h1.quiet fun b o q e => kL b o (fun z => ns_not_sq hn' (z ▸ e) q) e
      · refine hB'.kept (fun o e => kL _ _ ?_ e) fun o e => kL _ _ ?_ e
        · obtain ⟨_, _, _, e', _⟩ := hB'.box; exact nsq _ _ _ e'
        · obtain ⟨_, _, e', _⟩ := hB'.lst; exact nsq _ _ _ e'
  exact codeAny_compStart_at (G := C.G) rfl go (T.self items _ _ (T.frame _ _ _ st fun b o q e => k4 _ _ (k3 _ _ e)) go)
end Pf

namespace Pf
open PySem PySem.Calls PyProof.Rows PySem.W

/- ---- _law_shared_right ---- -/
noncomputable def m_shared : Fs := (sSeq (sSeqF 4 (sAsgO (oComp (iList (eVar 1)) 1 [3, 2] (gName 0) (tOf (bind2 dEq (bindL F_mrest (lCons (eVar 1) (lCons (eVar 0) (lCons (eVar 2) lNil)))) (eO (oLst lNil)))) (kE (eVar 0))) 4)) (sSeq (sRet (bind2 dEq (bindL F_mgcd (lCons (eVar 0) (lCons (eVar 3) (lCons (eVar 2) lNil)))) (bindL F_mproduct (lCons (eVar 4) (lCons (eVar 2) lNil))))) sNil))
noncomputable def drawnD (cs : List Nat) : D := .list ((cs.map fun (c : Nat) => .int c) ++ [.int 1])
noncomputable def sharedChk (w du : D) (p : Nat) (cs : List Nat) : Bool := match m_shared [.val w, .val du, .val (.int p), .val (drawnD cs), .un, .un] with | some (_, some (.bool true)) => true | _ => false
noncomputable def SharedOk (G : Gx) (n : Nat) (v : Value) : Prop :=
  ∀ A (X : AS) s ab al N wv dv pt (w du : D) (p : Nat) (Q : Value → Shared → Prop), A.handled = none → Room A n → (∀ b o, G.h0.get? b = some o → s.heap.get? b = some o ∧ ¬ X b) → (∀ a, X a → ∃ o, s.heap.get? a = some o) → X ab → X al → BoxOk ab al N s.heap → N ≤ 100 → 0 < p →
    Rd X s.heap wv w → Rd X s.heap dv du → (∀ cs : List Nat, cs.length = 3 → (∀ c ∈ cs, c < p) → sharedChk w du p cs = true) →
    (∀ s', (∃ h' tk, s' = { s with heap := h', toks := tk }) → (∀ b o, b ≠ ab → b ≠ al → s.heap.get? b = some o → s'.heap.get? b = some o) → BoxOk ab al (N + 3) s'.heap → Q (.bool true) s') → W G A (call v [.ref ab, wv, dv, .int p pt]) Q s
noncomputable def SShared (G : Gx) (n : Nat) : Prop := ∃ a o fd, G.mg "_law_shared_right" = some (.ref a) ∧ G.h0.get? a = some o ∧ o.data = .func fd ∧ SharedOk G n (.ref a)
noncomputable def shFx (ab : Addr) (wv dv pv : Value) : Str → Option Value := fun x => (([Str.ofString "box", Str.ofString "whole", Str.ofString "due", Str.ofString "p"] : List Str).zip [Value.ref ab, wv, dv, pv]).lookup x
theorem shared_ok {G : Gx} (O : G.Ok) (hD : ∀ d ∈ theDefs, d ∈ G.defs) (ST : STake G 1) (s_mgcd : SF G 5 "mgcd" F_mgcd) (s_mproduct : SF G 3 "mproduct" F_mproduct) (s_mrest : SF G 4 "mrest" F_mrest) : SShared G 6 := by
  obtain ⟨a, o, pm, code, doc, h1, h2, h3, h4⟩ := O.T.fn _ (hD _ (dr_in (i := 51) (by kernel_rfl)))
  refine ⟨a, o, _, h1, h2, h3, ?_⟩
  intro A X s ab al N wv dv pt w du p Q hA hR base xlv xa xl B hN hp0 rw' rd' hchk k
  have hck : fChk (dr 51).scope ["whole", "due", "p", "drawn", "shared", "box"] = true := by kernel_rfl
  refine call_entry (n := 5) (pn := ["box", "whole", "due", "p"]) O hck (fun x hx => by simp at hx ⊢; rcases hx with h | h | h | h <;> simp [h]) (fun vs hv => by
    match vs, hv with
    | [v0, v1, v2, v3], _ => rfl) hA hR (base a o h2).1 h3 h4 (fun b o e => (base b o e).1) (vs := [.ref ab, wv, dv, .int p pt]) rfl fun s₁ I => ?_
  have ER := entry_rel (σ := [.val w, .val du, .val (.int p), .un, .un, .un]) (X := X) (U := X) (P := fun b => ∃ o, s.heap.get? b = some o) (pin := 5) (fx := shFx ab wv dv (.int p pt)) O hA hR (fd := fdOf (dr 51) pm code doc) rfl rfl hck (pn := ["box", "whole", "due", "p"]) (vs := [.ref ab, wv, dv, .int p pt]) rfl I
    (fun b o e => ⟨(base b o e).1, ⟨o, (base b o e).1⟩, (base b o e).2⟩) (fun _ q => q) xlv xlv (fun _ q => q) (fun _ q => .inl q) rfl (by decide) (fun i y sl hy hs => by
      match i, hy, hs with
      | 0, hy, hs => simp at hy hs; subst hy hs; exact .inr ⟨wv, by simp, wv, rfl, rw'⟩
      | 1, hy, hs => simp at hy hs; subst hy hs; exact .inr ⟨dv, by simp, dv, rfl, rd'⟩
      | 2, hy, hs => simp at hy hs; subst hy hs; exact .inr ⟨.int p pt, by simp, .int p pt, rfl, .int _ _⟩
      | 3, hy, hs => simp at hs; exact .inl hs.symm
      | 4, hy, hs => simp at hs; exact .inl hs.symm
      | 5, hy, hs => simp at hs; exact .inl hs.symm
      | i + 6, hy, hs => simp at hy) (fun i y hi hy => rfl) (fun i j y z es fs b _ _ hi hj _ _ => by
      match i, hi with
      | 0, hi => simp at hi
      | 1, hi => simp at hi
      | 2, hi => simp at hi
      | 3, hi => simp at hi
      | 4, hi => simp at hi
      | 5, hi => simp at hi
      | i + 6, hi => simp at hi)
  obtain ⟨O0, R⟩ := ER
  have HB : HasBox (fCx G A (fdOf (dr 51) pm code doc) s.heap.objs.size a ["whole", "due", "p", "drawn", "shared", "box"] 5 5 (shFx ab wv dv (.int p pt))) 5 (Str.ofString "box") ab := ⟨rfl, Nat.le_refl _, rfl⟩
  have B1 : BoxOk ab al N s₁.heap := B.kept (fun o e => I.toInCall.keep _ _ e) fun o e => I.toInCall.keep _ _ e
  -- drawn = [_law_take(box, p) for at in range(3)] + [1]
  refine wpAny_execs_cons (wpAny_Assign_Name (wpAny_BinOp (draw_comp O0 HB ST (Nat.le_of_ble_eq_true rfl) (it := 0) (ip := 2) (es := (dr 51).scope) (cn := ["whole", "due", "p", "drawn", "shared", "box"]) (names := ["at", "box", "p"]) (ro := 1) (fi := [5, 2]) rfl rfl (by kernel_rfl) (SI_blt O0 bl_range PyProof.Rows.Boot.«range» (.inr ⟨_, rfl⟩) (by decide) (by kernel_rfl) (SL_cons SE_int SL_nil)) (by decide +kernel) (by kernel_rfl) (by kernel_rfl) (by decide) rfl rfl (by decide) (fun L O1 => TG_name O1 (i := 0) rfl (Nat.le_of_ble_eq_true rfl))
    R xa xl B1 (N := N) (items := [.int 0, .int 1, .int 2]) (by simp; omega) hp0 (by rfl) (by rfl) fun b vs n s₂ cs hcl hcs sh₂ kp₂ hn₂ hg₂ hr₂ B₂ => ?_)) (by kernel_rfl))
  have R₂ := R.forbid (s' := s₂) (fun b o q e => kp₂ b o (fun z => q (z ▸ xa)) (fun z => q (z ▸ xl)) e) fun b q => by
    by_cases e1 : b = ab
    · obtain ⟨_, _, _, e, _⟩ := B₂.box; exact ⟨_, e1 ▸ e⟩
    by_cases e2 : b = al
    · obtain ⟨_, _, e, _⟩ := B₂.lst; exact ⟨_, e2 ▸ e⟩
    obtain ⟨o, e⟩ := R.ul b q
    exact ⟨o, kp₂ b o e1 e2 e⟩
  refine SO_list (C := fCx G A (fdOf (dr 51) pm code doc) s.heap.objs.size a ["whole", "due", "p", "drawn", "shared", "box"] 5 5 (shFx ab wv dv (.int p pt))) (SL_cons SE_int SL_nil) _ _ _ _ _ _ R₂ [.int 1] rfl fun b3 ws c s₃ K₃ hn₃ hg₃ hr₃ => ?_
  have hg₂' := keeps_get K₃ _ _ hg₂
  have l1 := hr₂.length
  have l2 := hr₃.length
  simp only [Array.length_toList, List.length_map, List.length_cons, List.length_nil] at l1 l2 hcl
  refine PySem.P.add_list hg₂' hg₃ ?_ (by rw [sl]; omega)
  have K4 := keeps_push s₃ (lobj (vs ++ ws) 0)
  have R₄ := (R₂.keeps K₃).keeps K4
  obtain ⟨ρ, V⟩ := R₄.vars
  have hv : Rd X (s₃.heap.push (lobj (vs ++ ws) 0)) (.ref s₃.heap.objs.size) (drawnD cs) := by
    refine .list (fun q => ?_) (Heap.get?_push_size _ rfl) ?_
    · obtain ⟨o, e⟩ := (R₂.keeps K₃).ul _ q
      exact absurd (Heap.lt_size e) (Nat.lt_irrefl _)
    · rw [Array.toList_append]
      have q1 : Rds X s₃.heap vs.toList (cs.map fun (c : Nat) => .int c) := by
        have : ∀ {vs : List Value} {cs : List Nat} {h : Heap}, Rds (fun _ => False) h vs (cs.map fun (c : Nat) => .int c) → Rds X h vs (cs.map fun (c : Nat) => .int c) := fun {vs cs h} r => by
          induction cs generalizing vs with
          | nil => cases r; exact .nil
          | cons c cs ih => cases r with | cons r1 r2 => exact .cons (r1.flat rfl) (ih r2)
        exact this (hr₂.kept (keeps_get K₃))
      have q2 : Rds X s₃.heap ws.toList [.int 1] := hr₃.sub fun _ q => .inl q
      exact (q1.append q2).kept fun b o e => Heap.get?_push_of_some _ e
  refine st_name O0 R₄ V.fr (i := 3) (Nat.le_of_ble_eq_true rfl) rfl fun h' tk qc F => ?_
  have R₅ := (R₄.stored O0 V (i := 3) rfl (Nat.le_of_ble_eq_true rfl) qc F (.val (drawnD cs)) ⟨_, upd_eq, hv⟩ (tk := tk) fun ds a e => by cases e).1
  have hc := hchk cs hcl hcs
  unfold sharedChk at hc
  split at hc
  · rename_i σ' e
    have body : SS (fCx G A (fdOf (dr 51) pm code doc) s.heap.objs.size a ["whole", "due", "p", "drawn", "shared", "box"] 5 5 (shFx ab wv dv (.int p pt))) (execs ((dr 51).body.drop 1) (fCx G A (fdOf (dr 51) pm code doc) s.heap.objs.size a ["whole", "due", "p", "drawn", "shared", "box"] 5 5 (shFx ab wv dv (.int p pt))).env) m_shared :=
      (SS_cons (SS_seqF 4 (SS_asgComp O0 (i := 4) (es := _) (cn := ["whole", "due", "p", "drawn", "shared", "box"]) (names := ["row", "drawn", "p"]) (ro := 1) (fi := [3, 2]) rfl (Nat.le_of_ble_eq_true rfl) rfl rfl (by kernel_rfl) (SI_list O0 (SE_var O0 (i := 1) rfl)) (fun _ O1 => (LB_last rfl (TG_name O1 (i := 0) rfl (Nat.le_of_ble_eq_true rfl)) (ST_t1 (ST_cmp O1 op_eq (SE_call O1 s_mrest (Nat.le_of_ble_eq_true rfl) (by kernel_rfl) (SL_cons (SE_var O1 (i := 1) rfl) (SL_cons (SE_var O1 (i := 0) rfl) (SL_cons (SE_var O1 (i := 2) rfl) SL_nil))) (hd := (by kernel_rfl))) (SO.eo (SO_list SL_nil)))) (SE_var O1 (i := 0) rfl) rfl rfl)) (by kernel_rfl))) (SS_cons (SS_ret (SE_cmp O0 op_eq (SE_call O0 s_mgcd (Nat.le_of_ble_eq_true rfl) (by kernel_rfl) (SL_cons (SE_var O0 (i := 0) rfl) (SL_cons (SE_var O0 (i := 3) rfl) (SL_cons (SE_var O0 (i := 2) rfl) SL_nil))) (hd := (by kernel_rfl))) (SE_call O0 s_mproduct (Nat.le_of_ble_eq_true rfl) (by kernel_rfl) (SL_cons (SE_var O0 (i := 4) rfl) (SL_cons (SE_var O0 (i := 2) rfl) SL_nil)) (hd := (by kernel_rfl))))) SS_nil))
    refine body _ _ _ _ _ _ R₅ σ' (some (.bool true)) e fun fl s₆ p6 => ?_
    obtain ⟨p1, p2, v, rfl, hv6⟩ := p6
    cases hv6
    have kp₅ : ∀ b o, b ≠ ab → b ≠ al → s.heap.get? b = some o → h'.get? b = some o := fun b o n1 n2 e => qc.kp b o ⟨o, e⟩ (Heap.get?_push_of_some _ (keeps_get K₃ _ _ (kp₂ b o n1 n2 (I.toInCall.keep _ _ e))))
    have hbo : ∃ o, s.heap.get? ab = some o := by obtain ⟨_, _, _, e, _⟩ := B.box; exact ⟨_, e⟩
    have hlo : ∃ o, s.heap.get? al = some o := by obtain ⟨_, _, e, _⟩ := B.lst; exact ⟨_, e⟩
    refine k _ (shape_trans I.toInCall.same (shape_trans sh₂ (shape_trans (keeps_shape K₃) (shape_trans ⟨_, _, rfl⟩ p1)))) (fun b o n1 n2 e => p2 b o ⟨o, e⟩ (kp₅ b o n1 n2 e)) (B₂.kept (fun o e => ?_) fun o e => ?_)
    · exact p2 _ _ hbo (qc.kp _ _ hbo (Heap.get?_push_of_some _ (keeps_get K₃ _ _ e)))
    · exact p2 _ _ hlo (qc.kp _ _ hlo (Heap.get?_push_of_some _ (keeps_get K₃ _ _ e)))
  · cases hc
end Pf

namespace Pf
open PySem PySem.Calls PyProof.Rows PySem.W
/- ---- the statements of law, on plain data ---- -/
noncomputable def m_l3 : Fs := (sAsg (eO (oCat (eO (oCat (eO (oLst (lCons (eC (.int 0)) (lCons (bind2 dSub (eVar 1) (eC (.int 1))) lNil)))) (eO (oRep (eO (oLst (lCons (eC (.int 0)) lNil))) (bind2 dSub (bind2 dPow (eVar 1) (eVar 2)) (eC (.int 2))))))) (eO (oLst (lCons (eC (.int 1)) lNil))))) (gName 3))
noncomputable def m_l4 : Fs := (sSeqF 4 (sAsgO (oComp (iList (bindL F_law_primesT (lCons (eVar 2) (lCons (eVar 1) lNil)))) 1 [2] (gName 0) (tOf (bind2 dEq (bind2 dMod (eVar 1) (bind2 dSub (bindL fLen (lCons (eVarB 0) lNil)) (eC (.int 1)))) (eC (.int 0)))) (kE (eVar 0))) 4))
noncomputable def m_l5 : Fs := (sIf (tOr (tOf (bind2 dNe (bindL F_mfactor (lCons (eVar 3) (lCons (eVar 1) lNil))) (eTup (lCons (eC (.int 1)) (lCons (eO (oComp (iList (eVar 4)) 1 [] (gName 0) (fun _ => some true) (kE (eTup (lCons (eVar 0) (lCons (eC (.int 1)) lNil)))))) lNil))))) (tOf (bind2 dNe (bindL F_count_factors (lCons (eVar 3) (lCons (eVar 1) lNil))) (bindL fLen (lCons (eVarB 4) lNil))))) (sSeq (sRet (eC (.bool false))) sNil) sNil)
noncomputable def m_l6 : Fs := (sFor (bindLO fRange (lCons (eC (.int 1)) (lCons (bind2 dAdd (eVar 2) (eC (.int 1))) lNil))) (gName 5) (sSeq (sAsg (eO (oComp (iList (bindL F_law_primes (lCons (eVar 2) (lCons (eVar 1) lNil)))) 1 [5] (gName 0) (tOf (bind2 dEq (bindL fLen (lCons (eVarB 0) lNil)) (bind2 dAdd (eVar 1) (eC (.int 1))))) (kE (eVar 0)))) (gName 6)) (sSeq (sIf (tOr (tOf (bind2 dNe (bindL fLen (lCons (eVarB 6) lNil)) (bindL F_count_prime_polys (lCons (eVar 1) (lCons (eVar 5) lNil))))) (tOf (bind2 dNe (bind2 dIdx (eVarB 6) (eC (.int 0))) (bindL F_first_prime_poly (lCons (eVar 1) (lCons (eVar 5) lNil)))))) (sSeq (sRet (eC (.bool false))) sNil) sNil) (sSeq (sIf (tOf (bind2 dNe (eO (oComp (iList (bindL F_law_monic (lCons (eVar 5) (lCons (eVar 1) lNil)))) 1 [1, 6] (gName 0) (tOf (bind2 dNe (bindL F_is_prime_mod (lCons (eVar 0) (lCons (eVar 1) lNil))) (bind2 dIn (eVar 0) (eVar 2)))) (kE (eVar 0)))) (eO (oLst lNil)))) (sSeq (sRet (eC (.bool false))) sNil) sNil) sNil))))
noncomputable def m_l7 : Fs := (sAsg (bindL F_distinct_degrees (lCons (eVar 3) (lCons (eVar 1) lNil))) (gName 7))
noncomputable def m_l8 : Fs := (sIf (tOf (bind2 dNe (eO (oComp (iList (eVar 7)) 2 [] (gTup [0, 1]) (fun _ => some true) (kE (eVar 1)))) (eO (oComp (bindLO fRange (lCons (eC (.int 1)) (lCons (bind2 dAdd (eVar 2) (eC (.int 1))) lNil))) 1 [2] (gName 0) (tOf (bind2 dEq (bind2 dMod (eVar 1) (eVar 0)) (eC (.int 0)))) (kE (eVar 0)))))) (sSeq (sRet (eC (.bool false))) sNil) sNil)
noncomputable def m_l9 : Fs := (sFor (iList (eVar 7)) (gTup [8, 5]) (sSeq (sIf (tOf (bind2 dNe (eVar 8) (bindL F_mproduct (lCons (eO (oComp (iList (eVar 4)) 1 [5] (gName 0) (tOf (bind2 dEq (bindL fLen (lCons (eVarB 0) lNil)) (bind2 dAdd (eVar 1) (eC (.int 1))))) (kE (eVar 0)))) (lCons (eVar 1) lNil))))) (sSeq (sRet (eC (.bool false))) sNil) sNil) sNil))
noncomputable def m_l10 : Fs := (sAsg (bindL F_first_prime_poly (lCons (eVar 1) (lCons (eVar 2) lNil))) (gName 9))
noncomputable def m_l11 : Fs := (sSeqF 10 (sAsgO (oComp (iList (eVar 4)) 1 [9, 1] (gName 0) (fun _ => some true) (kE (eO (oComp (iList (bindL F_gf_things (lCons (eVar 1) (lCons (eVar 2) lNil)))) 1 [0, 1, 2] (gName 0) (tOf (bind2 dEq (bindL F_gf_at (lCons (eVar 1) (lCons (eVar 0) (lCons (eVar 2) (lCons (eVar 3) lNil))))) (eO (oLst lNil)))) (kE (eVar 0)))))) 10))
noncomputable def m_l12 : Fs := (sIf (tOf (bind2 dNe (eO (oComp (iList (eVar 10)) 1 [] (gName 0) (fun _ => some true) (kE (bindL fLen (lCons (eVarB 0) lNil))))) (eO (oComp (iList (eVar 4)) 1 [] (gName 0) (fun _ => some true) (kE (bind2 dSub (bindL fLen (lCons (eVarB 0) lNil)) (eC (.int 1)))))))) (sSeq (sRet (eC (.bool false))) sNil) sNil)
noncomputable def m_l13 : Fs := (sIf (tOf (bind2 dNe (eO (bindLO fSort1 (lCons (bindL fSum (lCons (eVar 10) (lCons (eO (oLst lNil)) lNil))) lNil))) (eO (bindLO fSort1 (lCons (bindL F_gf_things (lCons (eVar 9) (lCons (eVar 1) lNil))) lNil))))) (sSeq (sRet (eC (.bool false))) sNil) sNil)
noncomputable def m_l16 : Fs := (sRet (bind2 dEq (bind2 dIdx (bindL F_mfactor (lCons (bindL F_mproduct (lCons (eO (oCat (eO (oRep (eO (oLst (lCons (eVar 3) lNil))) (eVar 12))) (eO (oLst (lCons (eO (oLst (lCons (eC (.int 0)) (lCons (eC (.int 1)) lNil)))) lNil))))) (lCons (eVar 1) lNil))) (lCons (eVar 1) lNil))) (eC (.int 1))) (eO (oComp (iList (eVar 4)) 1 [12] (gName 0) (fun _ => some true) (kE (eTup (lCons (eVar 0) (lCons (bind2 dAdd (eVar 1) (bindL fInt (lCons (bind2 dEq (eVar 0) (eO (oLst (lCons (eC (.int 0)) (lCons (eC (.int 1)) lNil))))) lNil))) lNil))))))))
noncomputable def t_l15 : Ft := (tOf (bind2 dLt (bindL fLen (lCons (eVarB 3) lNil)) (eC (.int 7))))
noncomputable def st0 (p k : Nat) : St := [.un, .val (.int p), .val (.int k), .un, .un, .un, .un, .un, .un, .un, .un, .un, .un, .un]
end Pf

namespace Pf
open PySem PySem.Calls PyProof.Rows PySem.W

/- ---- law: its frame, its first two statements ---- -/
noncomputable def LN : List Str := ["script", "p", "k", "whole", "due", "degree", "some", "told", "both", "m", "roots", "turn", "power", "box"]
noncomputable def lawFx (ab : Addr) : Str → Option Value := fun x => if x = Str.ofString "box" then some (.ref ab) else none
@[reducible] noncomputable def lawC0 (G : Gx) (A : Around) (fd : FuncData) (L a : Addr) : Cx := fCx G A fd L a LN 11 14 fun _ => none
@[reducible] noncomputable def lawC1 (G : Gx) (A : Around) (fd : FuncData) (L a : Addr) (ab : Addr) : Cx := fCx G A fd L a LN 11 13 (lawFx ab)
theorem law_box {G : Gx} {A : Around} {fd : FuncData} {L a ab : Addr} : HasBox (lawC1 G A fd L a ab) 13 (Str.ofString "box") ab := ⟨rfl, Nat.le_refl _, (if_pos rfl : lawFx ab (Str.ofString "box") = some (.ref ab))⟩
theorem lawC1_ok {G : Gx} {A : Around} {fd : FuncData} {L a : Addr} (O : (lawC0 G A fd L a).Ok) (ab : Addr) : (lawC1 G A fd L a ab).Ok :=
  ⟨O.g, O.kind, O.glob, O.blt, O.hd, O.room, Nat.le_refl _, O.nodup, O.var, fun i x hi hx => O.sto i x (Nat.lt_of_lt_of_le hi (show 13 ≤ 14 by omega)) hx, O.apart⟩

noncomputable def m_draw : Fl := (oComp (iList (eO (oSl (eVarB 0) none (some (eC (.int 20)))))) 1 [] (gName 0) (fun _ => some true) (kE (bindL fAbs (lCons (bindL fInt (lCons (eVar 0) lNil)) lNil))))
theorem draw_cl : ∀ (xs : List Int) (sl : Slot), ∃ sl', cLoop (gName 0) (fun _ => some true) (kE (bindL fAbs (lCons (bindL fInt (lCons (eVar 0) lNil)) lNil))) (xs.map .int) [sl] = some ([sl'], xs.map fun x => .int (x.natAbs : Int))
  | [], sl => ⟨sl, rfl⟩
  | x :: xs, sl => by
    obtain ⟨sl', h⟩ := draw_cl xs (.val (.int x))
    refine ⟨sl', ?_⟩
    have e1 : bindL fAbs (lCons (bindL fInt (lCons (eVar 0) lNil)) lNil) [.val (.int x)] = some (.int (x.natAbs : Int)) := by
      show (match PySem.W.Z.ltB x 0 with | true => some (PyData.int (-x)) | false => some (PyData.int x)) = _
      rw [ltB_dec]
      by_cases c : x < 0
      · simp only [c, decide_true]; congr 2; omega
      · simp only [c, decide_false]; congr 2; omega
    simp only [List.map_cons, cLoop, gName, List.set_cons_zero, kE, e1, h, List.cons_append, List.nil_append]
theorem draw_eval {xs : List Int} (h : xs.length ≤ 63) {σ : St} (h0 : σ[0]? = some (.val (.list (xs.map .int)))) : m_draw σ = some ((xs.take 20).map fun x => .int (x.natAbs : Int)) := by
  have hs : short (xs.map PyData.int) = true := Nat.ble_eq_true_of_le (by simp; omega)
  have e1 : (iList (eO (oSl (eVarB 0) none (some (eC (.int 20)))))) σ = some ((xs.take 20).map .int) := by
    unfold iList eO oSl eVarB
    rw [h0]
    simp only [hs, eC]
    rw [List.map_take]; rfl
  unfold m_draw oComp
  rw [e1]
  simp only
  obtain ⟨sl', h2⟩ := draw_cl (xs.take 20) .un
  have e2 : cInit σ 1 [] = [.un] := rfl
  rw [e2, h2]
  simp only
  have hs2 : short ((xs.take 20).map fun x => (PyData.int (x.natAbs : Int))) = true := Nat.ble_eq_true_of_le (by simp; omega)
  rw [hs2]
theorem ints_of {X : AS} {h : Heap} : ∀ {vs : List Value} {xs : List Int}, Rds X h vs (xs.map fun x => .int (x.natAbs : Int)) → ∀ v ∈ vs, ∃ x : Nat, ∃ t, v = .int x t
  | [], _, _, v, hv => nomatch hv
  | w :: vs, [], r, v, hv => by cases r
  | w :: vs, x :: xs, r, v, hv => by
    cases r with
    | cons r1 r2 =>
      rcases List.mem_cons.mp hv with rfl | hv
      · cases r1; exact ⟨x.natAbs, _, rfl⟩
      · exact ints_of r2 v hv

/-- box = [[abs(int(one)) for one in script[:20]], 0] -/
theorem law_seg1 {G : Gx} {A : Around} {fd : FuncData} {L a : Addr} (O : (lawC0 G A fd L a).Ok) {P : AS} {s : Shared} {xs : List Int} (hxs : xs.length ≤ 63) {σ : St} (h0 : σ[0]? = some (.val (.list (xs.map .int)))) (R : Rel (lawC0 G A fd L a) (fun _ => False) P (fun _ => False) σ s) (hnl : (lawC0 G A fd L a).env.kindOf (Str.ofString "box") = some .local)
    {e1 : Expr} {p1 p2 p3 p4 : Pos} {kd : Nat} (hc : SO (lawC0 G A fd L a) (eval e1 (lawC0 G A fd L a).env) m_draw) (hst : ∀ es env, starEach (e1 :: es) env = (false, eval e1 env) :: starEach es env)
    (hsw : swapsWith (.List [e1, .Constant (.int 0) kd p2] p3) (some (.Name "box" p1)) p4.line (lawC0 G A fd L a).env = pure false) {Q : Flow → Shared → Prop}
    (k : ∀ ab al s', (∃ h' tk, s' = { s with heap := h', toks := tk }) → (∀ b o, P b → s.heap.get? b = some o → s'.heap.get? b = some o) → BoxOk ab al 0 s'.heap → s.heap.get? ab = none → s.heap.get? al = none →
      Rel (lawC1 G A fd L a ab) (fun b => b = ab ∨ b = al) (fun b => P b ∨ b = ab ∨ b = al) (fun b => b = ab ∨ b = al) (List.replicate 14 .un) s' → Q .next s') :
    W (lawC0 G A fd L a).G (lawC0 G A fd L a).A (exec (.Assign [.Name "box" p1] (.List [e1, .Constant (.int 0) kd p2] p3) p4) (lawC0 G A fd L a).env) Q s := by
  refine wpAny_Assign_Name (List_ ?_) hsw
  rw [hst]
  show W _ _ (spliced [(false, eval e1 _), (false, eval (.Constant (.int 0) kd p2) _)]) _ s
  refine spliced_cons (hc _ _ _ _ _ _ R _ (draw_eval hxs h0) fun al vs n s₁ K hn hg hr => spliced_cons (wpAny_Constant_int (spliced_nil (wpAny_newList ?_ (by rw [sl]; show 2 ≤ _; omega)))))
  have hvs := ints_of hr
  have hsz : vs.size ≤ 20 := by
    have := hr.length
    simp only [Array.length_toList, List.length_map, List.length_take] at this
    omega
  have K1 : Keeps s { s₁ with heap := s₁.heap.push (lobj [Value.ref al, .int 0 s₁.toks].toArray 0), toks := s₁.toks + 1 } := keeps_trans K ⟨_, _, rfl, fun b o e => Heap.get?_push_of_some _ e⟩
  have R₁ := R.keeps K1
  have hab : s.heap.get? s₁.heap.objs.size = none := fresh_none K
  have hgb : (s₁.heap.push (lobj [Value.ref al, .int 0 s₁.toks].toArray 0)).get? s₁.heap.objs.size = some (lobj #[Value.ref al, .int 0 s₁.toks] 0) := Heap.get?_push_size _ rfl
  have hgl : (s₁.heap.push (lobj [Value.ref al, .int 0 s₁.toks].toArray 0)).get? al = some (lobj vs n) := Heap.get?_push_of_some _ hg
  have hne : s₁.heap.objs.size ≠ al := fun e => absurd (Heap.lt_size (e ▸ hg)) (Nat.lt_irrefl _)
  obtain ⟨ρ, V⟩ := R₁.vars
  refine st_name O R₁ V.fr (i := 13) (show 13 < 14 by omega) rfl fun h' tk qc F => ?_
  have hb2 := qc.kq _ _ (Sq.l _ _) hgb
  have hl2 := qc.kq _ _ (Sq.l _ _) hgl
  have kp : ∀ b o, P b → s.heap.get? b = some o → h'.get? b = some o := fun b o p e => qc.kp b o p (keeps_get K1 b o e)
  have nsq : ∀ b vs n, h'.get? b = some (lobj vs n) → b ≠ L := fun b vs n e q => by
    obtain ⟨m, ⟨o, es, ep, ho, hd, _⟩, _⟩ := F.ns
    rw [q] at e
    rw [show h'.get? L = some o from ho] at e
    cases e; cases hd
  refine k s₁.heap.objs.size al _ (shape_trans (keeps_shape K1) ⟨h', tk, rfl⟩) kp ⟨hne, ⟨0, _, _, hb2, Nat.le_refl _⟩, ⟨vs, n, hl2, hsz, hvs⟩⟩ hab hn ?_
  have lv2 : ∀ b, b = s₁.heap.objs.size ∨ b = al → ∃ vs n, h'.get? b = some (lobj vs n) := fun b q => q.elim (fun e => ⟨_, _, e ▸ hb2⟩) fun e => ⟨_, _, e ▸ hl2⟩
  have ncell : ∀ b x c, x ∈ LN → (lawC0 G A fd L a).env.kindOf x ≠ some .local → (lawC0 G A fd L a).env.cells.lookup x = some c → (b = s₁.heap.objs.size ∨ b = al) → c ≠ b := fun b x c hx hk hc q e => by
    obtain ⟨o, ho, hd⟩ := F.cell x c hx hk hc
    obtain ⟨vs, n, e2⟩ := lv2 b q
    rw [← e] at e2
    have e3 : some o = some (lobj vs n) := (show h'.get? c = some o from ho).symm.trans e2
    cases e3; cases hd
  refine ⟨fun b o e => ?_, fun _ q => q, fun b q => .inr q, fun b q => ?_, fun b q => ?_, fun _ q => .inl q, ?_, fun i x c hi hx hk hc => ?_, fun i x c hx hk hc q => ncell c x c (List.mem_of_getElem? hx) hk hc q rfl, rfl, upd ρ (Str.ofString "box") (.ref s₁.heap.objs.size), F, fun i x sl' hx hs => ?_, fun i j x y ds es a hx hy hi hj _ _ => ?_, fun i x hi hx => ?_⟩
  · obtain ⟨q1, q2, q3⟩ := R.base b o e
    refine ⟨kp b o q2 q1, .inl q2, ?_⟩
    rintro (z | z)
    · rw [z, hab] at q1; cases q1
    · rw [z, hn] at q1; cases q1
  · obtain ⟨vs, n, e⟩ := lv2 b q; exact ⟨_, e⟩
  · rcases q with q | q
    · obtain ⟨o, e⟩ := R.pl b q; exact ⟨o, kp b o q e⟩
    · obtain ⟨vs, n, e⟩ := lv2 b q; exact ⟨_, e⟩
  · rintro (q | q)
    · exact R.pL q
    · obtain ⟨vs, n, e⟩ := lv2 _ q; exact nsq _ _ _ e rfl
  · rintro (q | q)
    · exact R.pC i x c (Nat.lt_of_lt_of_le hi (show 13 ≤ 14 by omega)) hx hk hc q
    · exact ncell c x c (List.mem_of_getElem? hx) hk hc q rfl
  · have : sl' = .un := by
      rw [List.getElem?_replicate] at hs
      split at hs <;> cases hs
      rfl
    subst this; trivial
  · rw [List.getElem?_replicate] at hi
    split at hi <;> cases hi
  · have hlt : i < 14 := (List.getElem?_eq_some_iff.mp hx).1
    have hi : 13 ≤ i := hi
    have e : i = 13 := by omega
    subst e
    have : x = Str.ofString "box" := (Option.some.inj hx).symm
    subst this
    exact upd_eq.trans (law_box (G := G) (A := A) (fd := fd) (L := L) (a := a)).fx.symm

/-- _law_take(box, n) -/
theorem take_call {C : Cx} (O : C.Ok) {ib : Nat} {ab al : Addr} (HB : HasBox C ib (Str.ofString "box") ab) (ST : STake C.G 1) (hlv : 1 ≤ C.lv) (hk : C.env.kindOf "_law_take" = some .globalImplicit) {X P U : AS} {σ : St} {s : Shared} (R : Rel C X P U σ s) (xa : X ab) (xl : X al) {N many : Nat} (B : BoxOk ab al N s.heap) (hN : N ≤ 1000) (hm : 0 < many) {fp bp cp p2 : Pos} {kd : Nat} {Q : Value → Shared → Prop}
    (k : ∀ (r : Nat) t s', r < many → (∃ h' tk, s' = { s with heap := h', toks := tk }) → (∀ b o, b ≠ ab → b ≠ al → s.heap.get? b = some o → s'.heap.get? b = some o) → BoxOk ab al (N + 1) s'.heap → Rel C X P U σ s' → Q (.int r t) s') :
    W C.G C.A (eval (.Call (.Name "_law_take" fp) [.Name "box" bp, .Constant (.int (many : Int)) kd p2] [] cp) C.env) Q s := by
  obtain ⟨a, o, fd, h1, h2, h3, h4⟩ := ST
  refine wpAny_Call_NameR (ld_glob O R hk h1 ?_ (by decide))
  refine callWith_function (o := o) (fd := fd) (evalArgs_ns starEach_ne rfl ?_)
  show W C.G C.A (spliced [(false, eval (.Name "box" bp) C.env), (false, eval (.Constant (.int (many : Int)) kd p2) C.env)]) _ s
  refine spliced_cons (box_name O HB R (spliced_cons (wpAny_Constant_int (spliced_nil ?_))))
  have K := keeps_tok s (s.toks + 1)
  have R₁ := R.keeps K
  refine ⟨⟨(R.base _ _ h2).1, h3⟩, ?_⟩
  refine h4 C.A _ ab al N many _ _ O.hd (O.room.mono hlv) (fun b o e => ?_) B hN hm fun r t s₂ hr sh kp B3 => ?_
  · obtain ⟨q1, q2, q3⟩ := R₁.base b o e
    exact ⟨q1, fun z => q3 (z ▸ xa), fun z => q3 (z ▸ xl)⟩
  · refine k r t s₂ hr (shape_trans ⟨_, _, rfl⟩ sh) kp B3 (R₁.forbid (fun b o q e => kp b o (fun z => q (z ▸ xa)) (fun z => q (z ▸ xl)) e) fun b q => ?_)
    by_cases e2 : b = ab
    · obtain ⟨_, _, _, e, _⟩ := B3.box; exact ⟨_, e2 ▸ e⟩
    by_cases e3 : b = al
    · obtain ⟨_, _, e, _⟩ := B3.lst; exact ⟨_, e3 ▸ e⟩
    obtain ⟨o, e⟩ := R₁.ul b (R₁.xu b q)
    exact ⟨o, kp b o e2 e3 e⟩
noncomputable def PairsAt (G : Gx) : Prop := ∃ v, G.mg "_law_pairs" = some v ∧ Rd (fun _ => False) G.h0 v pairsD
theorem rd_at0 {X : AS} {h h' : Heap} (hk : ∀ b o, h.get? b = some o → h'.get? b = some o ∧ ¬ X b) {v : Value} {d : D} (r : Rd (fun _ => False) h v d) : Rd X h' v d := by
  induction r using Rd.rec (motive_2 := fun vs ds _ => Rds X h' vs ds) with
  | none => exact .none
  | bool b => exact .bool b
  | int i t => exact .int i t
  | list hn hg hs ih => exact .list (hk _ _ hg).2 (hk _ _ hg).1 ih
  | tuple hn hg hs ih => exact .tuple (hk _ _ hg).2 (hk _ _ hg).1 ih
  | nil => exact .nil
  | cons _ _ h1 h2 => exact .cons h1 h2
/-- p, k = _law_pairs[_law_take(box, 6)] -/
theorem law_seg2 {C : Cx} (O : C.Ok) {ib ip ik : Nat} {ab al : Addr} (HB : HasBox C ib (Str.ofString "box") ab) (ST : STake C.G 1) (hlv : 1 ≤ C.lv) (hk : C.env.kindOf "_law_take" = some .globalImplicit) (hkp : C.env.kindOf "_law_pairs" = some .globalImplicit) (PA : PairsAt C.G)
    {X P U : AS} {σ : St} {s : Shared} (R : Rel C X P U σ s) (xa : X ab) (xl : X al) (pa : P ab) (pl : P al) {N : Nat} (B : BoxOk ab al N s.heap) (hN : N ≤ 1000) {es : List Expr} {ne : Nat} {q1 q2 q3 p1 fp bp p2 cp : Pos} {kd : Nat} (hE : Elts C es [ip, ik])
    (hsw : swapsWithSole [.Tuple es ne q1] (.Subscript (.Name "_law_pairs" p1) (.Call (.Name "_law_take" fp) [.Name "box" bp, .Constant (.int 6) kd p2] [] cp) q2) q3.line C.env = pure false)
    (hw : swappedStores [.Tuple es ne q1] (.Subscript (.Name "_law_pairs" p1) (.Call (.Name "_law_take" fp) [.Name "box" bp, .Constant (.int 6) kd p2] [] cp) q2) C.env = pure none) {Q : Flow → Shared → Prop}
    (k : ∀ q ∈ thePairs, ∀ s', (∃ h' tk, s' = { s with heap := h', toks := tk }) → (∀ b o, P b → b ≠ ab → b ≠ al → s.heap.get? b = some o → s'.heap.get? b = some o) → BoxOk ab al (N + 1) s'.heap → Rel C X P U (putAll σ ([ip, ik].zip ([.int (q.1 : Int), .int (q.2 : Int)].map Rv.v))) s' → Q .next s') :
    W C.G C.A (exec (.Assign [.Tuple es ne q1] (.Subscript (.Name "_law_pairs" p1) (.Call (.Name "_law_take" fp) [.Name "box" bp, .Constant (.int 6) kd p2] [] cp) q2) q3) C.env) Q s := by
  obtain ⟨v, hv, hrd⟩ := PA
  refine Assign_Tuple (Subscript_ (ld_glob O R hkp hv ?_ (by decide))) hsw hw
  refine take_call O HB ST hlv hk R xa xl B hN (many := 6) (by decide) fun r t s₁ hr sh kp B1 R₁ => ?_
  have hrd1 : Rd U s₁.heap v pairsD := rd_at0 (fun b o e => by
    obtain ⟨z1, z2, z3⟩ := R₁.base b o e
    exact ⟨z1, fun z => (R₁.pu b z).elim z3 fun y => y z2⟩) hrd
  obtain ⟨q, hq, hx⟩ : ∃ q ∈ thePairs, dIdx pairsD (.int r) = some (.tuple [.int (q.1 : Int), .int (q.2 : Int)]) := by
    match r, hr with
    | 0, _ => exact ⟨(2, 1), by decide, rfl⟩
    | 1, _ => exact ⟨(2, 2), by decide, rfl⟩
    | 2, _ => exact ⟨(3, 1), by decide, rfl⟩
    | 3, _ => exact ⟨(2, 3), by decide, rfl⟩
    | 4, _ => exact ⟨(5, 1), by decide, rfl⟩
    | 5, _ => exact ⟨(3, 2), by decide, rfl⟩
    | r + 6, h => omega
  refine item_at hrd1.b hx (fun _ _ => rfl) fun v' r' => ?_
  refine TG_tup O hE _ _ _ _ _ _ _ _ _ R₁ r' (by unfold gTup; rfl) fun s₂ u => ?_
  obtain ⟨u1, u2, R₂⟩ := u
  exact k q hq s₂ (shape_trans sh u1) (fun b o p n1 n2 e => u2.kp b o p (kp b o n1 n2 e)) (B1.kept (fun o e => u2.kp _ _ pa e) fun o e => u2.kp _ _ pl e) R₂
end Pf

namespace Pf
open PySem PySem.Calls PyProof.Rows PySem.W

/- ---- law: the two trials of _law_shared_right ---- -/
theorem Rel.boxed {C : Cx} {X P U : AS} {σ : St} {s s' : Shared} (R : Rel C X P U σ s) {ab al : Addr} {N : Nat} (xa : X ab) (xl : X al) (kp : ∀ b o, b ≠ ab → b ≠ al → s.heap.get? b = some o → s'.heap.get? b = some o) (B : BoxOk ab al N s'.heap) : Rel C X P U σ s' :=
  R.forbid (fun b o q e => kp b o (fun z => q (z ▸ xa)) (fun z => q (z ▸ xl)) e) fun b q => by
    by_cases e2 : b = ab
    · obtain ⟨_, _, _, e, _⟩ := B.box; exact ⟨_, e2 ▸ e⟩
    by_cases e3 : b = al
    · obtain ⟨_, _, e, _⟩ := B.lst; exact ⟨_, e3 ▸ e⟩
    obtain ⟨o, e⟩ := R.ul b (R.xu b q)
    exact ⟨o, kp b o e2 e3 e⟩
theorem law_turn {C : Cx} (O : C.Ok) {ib iw id ip : Nat} {ab al : Addr} {xw xd xp : Str} (HB : HasBox C ib (Str.ofString "box") ab) (SS : SShared C.G 6) (hlv : 6 ≤ C.lv) (hk : C.env.kindOf "_law_shared_right" = some .globalImplicit) (nw : C.names[iw]? = some xw) (nd : C.names[id]? = some xd) (np : C.names[ip]? = some xp)
    {X P U : AS} {σ : St} {s : Shared} (R : Rel C X P U σ s) (xa : X ab) (xl : X al) {N : Nat} (B : BoxOk ab al N s.heap) (hN : N ≤ 100) {w du : D} {p : Nat} (hp0 : 0 < p) (hw : σ[iw]? = some (.val w)) (hd : σ[id]? = some (.val du)) (hp : σ[ip]? = some (.val (.int p)))
    (hchk : ∀ cs : List Nat, cs.length = 3 → (∀ c ∈ cs, c < p) → sharedChk w du p cs = true) {fp b1 b2 b3 b4 cp np' ip' : Pos} {ret : List Stmt} {Q : Flow → Shared → Prop}
    (k : ∀ s', (∃ h' tk, s' = { s with heap := h', toks := tk }) → (∀ b o, b ≠ ab → b ≠ al → s.heap.get? b = some o → s'.heap.get? b = some o) → BoxOk ab al (N + 3) s'.heap → Rel C X P U σ s' → Q .next s') :
    W C.G C.A (execs [.If (.UnaryOp .Not (.Call (.Name "_law_shared_right" fp) [.Name "box" b1, .Name xw b2, .Name xd b3, .Name xp b4] [] cp) np') ret [] ip'] C.env) Q s := by
  obtain ⟨a, o, fd, h1, h2, h3, h4⟩ := SS
  refine wpAny_execs_cons (wpAny_If (isTrue_not ?_))
  have he : isTrue (.Call (.Name "_law_shared_right" fp) [.Name "box" b1, .Name xw b2, .Name xd b3, .Name xp b4] [] cp) C.env (eval (.Call (.Name "_law_shared_right" fp) [.Name "box" b1, .Name xw b2, .Name xd b3, .Name xp b4] [] cp) C.env) = (do let v ← eval (.Call (.Name "_law_shared_right" fp) [.Name "box" b1, .Name xw b2, .Name xd b3, .Name xp b4] [] cp) C.env; standAt cp; holding [v] (truthy v)) := by rfl
  rw [he]
  refine wpAny_bind ?_
  refine wpAny_Call_NameR (ld_glob O R hk h1 ?_ (by decide))
  refine callWith_function (o := o) (fd := fd) (evalArgs_ns starEach_ne rfl ?_)
  show W C.G C.A (spliced [(false, eval (.Name "box" b1) C.env), (false, eval (.Name xw b2) C.env), (false, eval (.Name xd b3) C.env), (false, eval (.Name xp b4) C.env)]) _ s
  refine spliced_cons (box_name O HB R (spliced_cons (SE_var O nw _ _ _ _ _ _ R w (by unfold eVar; rw [hw]) fun wv s₁ K₁ rw' => ?_)))
  have R₁ := R.keeps K₁
  refine spliced_cons (SE_var O nd _ _ _ _ _ _ R₁ du (by unfold eVar; rw [hd]) fun dv s₂ K₂ rd' => ?_)
  have R₂ := R₁.keeps K₂
  refine spliced_cons (SE_var O np _ _ _ _ _ _ R₂ (.int p) (by unfold eVar; rw [hp]) fun pv s₃ K₃ rp' => spliced_nil ?_)
  cases rp'
  have R₃ := R₂.keeps K₃
  have K := keeps_trans (keeps_trans K₁ K₂) K₃
  refine ⟨⟨keeps_get K _ _ (R.base _ _ h2).1, h3⟩, ?_⟩
  have B3 := B.kept (fun o e => keeps_get K _ _ e) fun o e => keeps_get K _ _ e
  refine h4 C.A U s₃ ab al N wv dv _ w du p _ O.hd (O.room.mono hlv) (fun b o e => ?_) R₃.ul (R.xu _ xa) (R.xu _ xl) B3 hN hp0 (rw'.kept (keeps_get (keeps_trans K₂ K₃))) (rd'.kept (keeps_get K₃)) hchk fun s₄ sh kp B4 => ?_
  · obtain ⟨q1, q2, q3⟩ := R₃.base b o e
    exact ⟨q1, fun q => (R₃.pu b q).elim q3 fun z => z q2⟩
  · refine wpAny_bind (wpAny_standAt (wpAny_holding (wpAny_truthy_bool ?_)))
    simp only [Bool.not_true, Bool.false_eq_true, if_false]
    exact wpAny_execs_nil (wpAny_execs_nil (k s₄ (shape_trans (keeps_shape K) sh) (fun b o n1 n2 e => kp b o n1 n2 (keeps_get K b o e)) B4 (R₃.boxed xa xl kp B4)))

theorem law_seg14 {C : Cx} (O : C.Ok) {ib iw id ip it : Nat} {ab al : Addr} {xw xd xp xt : Str} (HB : HasBox C ib (Str.ofString "box") ab) (SS : SShared C.G 6) (hlv : 6 ≤ C.lv) (hk : C.env.kindOf "_law_shared_right" = some .globalImplicit) (nw : C.names[iw]? = some xw) (nd : C.names[id]? = some xd) (np : C.names[ip]? = some xp)
    {X P U : AS} {σ : St} {s : Shared} (R : Rel C X P U σ s) (xa : X ab) (xl : X al) {N : Nat} (B : BoxOk ab al N s.heap) (hN : N ≤ 50) {w du : D} {p : Nat} (hp0 : 0 < p) (hw : σ[iw]? = some (.val w)) (hd : σ[id]? = some (.val du)) (hp : σ[ip]? = some (.val (.int p)))
    (hchk : ∀ cs : List Nat, cs.length = 3 → (∀ c ∈ cs, c < p) → sharedChk w du p cs = true) {e : Expr} {okT : Expr → Bool} {m : Fl} (hI : SI C e okT m) (hm : m σ = some [.int 0, .int 1]) {tp : Pos} (hok : okT (.Name xt tp) = true) (ht : TG C (.Name xt tp) (gName it)) (itn : it ≠ iw ∧ it ≠ id ∧ it ≠ ip)
    {fp b1 b2 b3 b4 cp np' ip' pos : Pos} {ret : List Stmt} {Q : Flow → Shared → Prop} (hs : ∀ x, foldedSetIterable e C.env x = pure x)
    (k : ∀ s' U', (∃ h' tk, s' = { s with heap := h', toks := tk }) → (∀ b o, P b → b ≠ ab → b ≠ al → s.heap.get? b = some o → s'.heap.get? b = some o) → BoxOk ab al (N + 6) s'.heap → Rel C X P U' ((σ.set it (.val (.int 0))).set it (.val (.int 1))) s' → Q .next s') :
    W C.G C.A (exec (.For (.Name xt tp) e [.If (.UnaryOp .Not (.Call (.Name "_law_shared_right" fp) [.Name "box" b1, .Name xw b2, .Name xd b3, .Name xp b4] [] cp) np') ret [] ip'] [] pos) C.env) Q s := by
  refine wpAny_For (hI X P U σ s _ R _ hm fun I wr Z Sta Mid s₁ K fr wz zl zu T st => ?_) hs
  have R₁ := R.loop K fr (T.alive _ s₁.heap st) zl zu
  have lb : ∃ o, s.heap.get? ab = some o := by obtain ⟨_, _, _, e, _⟩ := B.box; exact ⟨_, e⟩
  have ll : ∃ o, s.heap.get? al = some o := by obtain ⟨_, _, e, _⟩ := B.lst; exact ⟨_, e⟩
  have pw : ∀ b o, s.heap.get? b = some o → b ∉ wr := fun b o e q => not_live' e (fr b q)
  have aw : ab ∉ wr := by obtain ⟨o, e⟩ := lb; exact pw _ o e
  have lw : al ∉ wr := by obtain ⟨o, e⟩ := ll; exact pw _ o e
  have az : ¬ Z ab := fun z => zu _ z (R.xu _ xa)
  have lz : ¬ Z al := fun z => zu _ z (R.xu _ xl)
  have xw' : ∀ b, X b → b ∉ wr := fun b q w => by obtain ⟨o, e⟩ := R.ul b (R.xu b q); exact not_live' e (fr b w)
  have B1 := B.kept (fun o e => keeps_get K _ _ e) fun o e => keeps_get K _ _ e
  -- the state ahead of a turn
  let Inv : Nat → Shared → Prop := fun n s' => ∃ rest σk Uk M, n = rest.length ∧ Sta rest s'.heap ∧ Rel C (fun b => X b ∨ b ∈ wr) (fun b => P b ∨ Z b ∨ b ∈ wr) Uk σk s' ∧ (∃ h' tk, s' = { s with heap := h', toks := tk }) ∧ (∀ b o, P b → b ≠ ab → b ≠ al → s.heap.get? b = some o → s'.heap.get? b = some o) ∧ BoxOk ab al M s'.heap ∧
    ((rest = [.int 0, .int 1] ∧ σk = σ ∧ M = N) ∨ (rest = [.int 1] ∧ σk = σ.set it (.val (.int 0)) ∧ M = N + 3) ∨ (rest = [] ∧ σk = (σ.set it (.val (.int 0))).set it (.val (.int 1)) ∧ M = N + 6))
  refine codeAny_forLoop_any Inv ?_ 2 ⟨_, σ, _, N, rfl, st, R₁, keeps_shape K, fun b o _ _ _ e => keeps_get K b o e, B1, .inl ⟨rfl, rfl, rfl⟩⟩
  rintro n s₂ ⟨rest, σk, Uk, M, rfl, sta, Rk, sh, kp, BM, cs⟩
  have fb : ∀ {σk Uk s₂ h' tk}, Rel C (fun b => X b ∨ b ∈ wr) (fun b => P b ∨ Z b ∨ b ∈ wr) Uk σk s₂ → (∀ b o, b ∉ wr → s₂.heap.get? b = some o → h'.get? b = some o) → (∀ b ∈ wr, ∃ o, h'.get? b = some o) →
      Rel C (fun b => X b ∨ b ∈ wr) (fun b => P b ∨ Z b ∨ b ∈ wr) Uk σk { s₂ with heap := h', toks := tk } := fun {σk Uk s₂ h' tk} Rk hk' al =>
    Rk.forbid (s' := { s₂ with heap := h', toks := tk }) (fun b o q e => hk' b o (fun w => q (.inr w)) e) fun b q => q.elim (fun q => by
      obtain ⟨o, e⟩ := Rk.ul b (Rk.xu b (.inl q))
      exact ⟨o, hk' b o (xw' b q) e⟩) (al b)
  cases rest with
  | nil =>
    refine W.any (T.done s₂ _ sta fun h' tk hk' => ?_)
    have R₃ := R.unloop (s' := { s₂ with heap := h', toks := tk }) Rk fr hk'
    rcases cs with ⟨e, _⟩ | ⟨e, _⟩ | ⟨_, rfl, rfl⟩
    · cases e
    · cases e
    · exact wpAny_execs_nil (k _ _ (shape_trans sh ⟨h', tk, rfl⟩) (fun b o p n1 n2 e => hk' b o (pw b o e) (kp b o p n1 n2 e)) (BM.kept (fun o e => hk' _ _ aw e) fun o e => hk' _ _ lw e) R₃)
  | cons d rest =>
    refine W.any (T.item d rest s₂ _ sta fun v h₃ tk₃ hk₃ hv mid => ?_)
    have R₃ := fb (tk := tk₃) Rk hk₃ (T.aliveM _ _ _ mid)
    have hvU : Rd Uk h₃ v d := hv Uk (fun a q z => (Rk.pu a q).elim (fun q => q.elim (fun q => zu a z (R.xu a q)) fun w => wz a w z) fun y => y (.inr (.inl z))) Rk.ul
    refine W.any (T.go (.Name xt tp) v rest _ _ hok mid fun h₄ hk₄ sta₄ => ?_)
    have R₄ := fb (tk := tk₃) R₃ hk₄ (T.alive _ _ sta₄)
    have hv₄ : Rd Uk h₄ v d := hvU.mono (fun _ q => q) fun b o q e => hk₄ b o (fun w => q (Rk.xu b (.inr w))) e
    refine W.any (ht _ _ Uk σk _ v d _ _ R₄ hv₄ rfl fun s₅ u => ?_)
    obtain ⟨u1, u2, R₅⟩ := u
    have sta₅ : Sta rest s₅.heap := T.frame _ _ _ sta₄ fun b o q e => u2.kp b o (.inr q) e
    have kp₅ : ∀ b o, P b → b ≠ ab → b ≠ al → s.heap.get? b = some o → s₅.heap.get? b = some o := fun b o p n1 n2 e => u2.kp b o (.inl p) (hk₄ b o (pw b o e) (hk₃ b o (pw b o e) (kp b o p n1 n2 e)))
    have sh₅ : ∃ h' tk, s₅ = { s with heap := h', toks := tk } := shape_trans (shape_trans sh ⟨h₄, tk₃, rfl⟩) u1
    have pab : P ab := R.xp _ xa
    have pal : P al := R.xp _ xl
    have B₅ : BoxOk ab al M s₅.heap := BM.kept (fun o e => u2.kp _ _ (.inl pab) (hk₄ _ _ aw (hk₃ _ _ aw e))) fun o e => u2.kp _ _ (.inl pal) (hk₄ _ _ lw (hk₃ _ _ lw e))
    have get : ∀ {j : Nat} {q : Slot}, it ≠ j → σk[j]? = some q → (σk.set it (.val d))[j]? = some q := fun {j q} n e => by rw [List.getElem?_set_ne n]; exact e
    have hσk : σk[iw]? = some (.val w) ∧ σk[id]? = some (.val du) ∧ σk[ip]? = some (.val (.int p)) ∧ M ≤ 100 := by
      rcases cs with ⟨_, rfl, rfl⟩ | ⟨_, rfl, rfl⟩ | ⟨e, _⟩
      · exact ⟨hw, hd, hp, by omega⟩
      · exact ⟨by rw [List.getElem?_set_ne itn.1]; exact hw, by rw [List.getElem?_set_ne itn.2.1]; exact hd, by rw [List.getElem?_set_ne itn.2.2]; exact hp, by omega⟩
      · cases e
    refine W.any (law_turn O HB SS hlv hk nw nd np R₅ (.inl xa) (.inl xl) B₅ hσk.2.2.2 hp0 (get itn.1 hσk.1) (get itn.2.1 hσk.2.1) (get itn.2.2 hσk.2.2.1) hchk fun s₆ sh₆ kp₆ B₆ R₆ => ?_)
    refine ⟨rest.length, Nat.lt_succ_self _, rest, _, Uk, M + 3, rfl, T.frame _ _ _ sta₅ fun b o q e => kp₆ b o (fun z => q.elim (fun q => az (z ▸ q)) fun q => aw (z ▸ q)) (fun z => q.elim (fun q => lz (z ▸ q)) fun q => lw (z ▸ q)) e, R₆, shape_trans sh₅ sh₆, fun b o p n1 n2 e => kp₆ b o n1 n2 (kp₅ b o p n1 n2 e), B₆, ?_⟩
    rcases cs with ⟨e, rfl, rfl⟩ | ⟨e, rfl, rfl⟩ | ⟨e, _⟩
    · cases e; exact .inr (.inl ⟨rfl, rfl, rfl⟩)
    · cases e; exact .inr (.inr ⟨rfl, rfl, by omega⟩)
    · cases e
end Pf

namespace Pf
open PySem PySem.Calls PyProof.Rows PySem.W

/- ---- law ---- -/
theorem SSt_seqF {l : Lx} {C : Cx} {t : Sem Flow} {m : Fs} (i : Nat) (h : SSt l C t m) : SSt l C t (sSeqF i m) := by
  intro X P U σ s Q R pr σ' r hd k
  unfold sSeqF at hd
  split at hd <;> cases hd
  rename_i σ₁ e
  refine h X P U σ s Q R pr σ₁ r e fun fl s' p => k fl s' ?_
  obtain ⟨hh, T, p3⟩ := p
  refine ⟨hh, T, ?_⟩
  cases r with
  | none =>
    obtain ⟨q1, U', R'⟩ := p3
    obtain ⟨U'', R''⟩ := R'.freeze i
    exact ⟨q1, U'', R''⟩
  | some d => exact p3
/-- how it stands between two statements -/
structure Go (C : Cx) (X P : AS) (ab al : Addr) (N : Nat) (s0 : Shared) (σ : St) (s : Shared) : Prop where
  rel : ∃ U, Rel C X P U σ s
  sh : ∃ h' tk, s = { s0 with heap := h', toks := tk }
  kp : ∀ b o, b ≠ theL.tab → s0.heap.get? b = some o → s.heap.get? b = some o
  live : ∀ b o, s0.heap.get? b = some o → P b
  xa : X ab
  xl : X al
  box : BoxOk ab al N s.heap
theorem Go.step {C : Cx} {X P : AS} {ab al : Addr} {N : Nat} {s0 s : Shared} {σ σ' : St} (g : Go C X P ab al N s0 σ s) (O : C.Ok) {st : Stmt} {rest : List Stmt} {m : Fs} (h : SS C (exec st C.env) m) (e : m σ = some (σ', none)) {Q : Flow → Shared → Prop}
    (k : ∀ s', Go C X P ab al N s0 σ' s' → W C.G C.A (execs rest C.env) Q s') : W C.G C.A (execs (st :: rest) C.env) Q s := by
  obtain ⟨U, R⟩ := g.rel
  refine wpAny_execs_cons (h X P U σ s _ R σ' none e fun fl s' p => ?_)
  obtain ⟨p1, p2, rfl, U', R'⟩ := p
  exact k s' ⟨⟨U', R'⟩, shape_trans g.sh p1, fun b o n z => p2 b o (g.live b o z) (g.kp b o n z), g.live, g.xa, g.xl, g.box.kept (fun o z => p2 _ _ (R.xp _ g.xa) z) fun o z => p2 _ _ (R.xp _ g.xl) z⟩

noncomputable def twoOne : Bool → Nat | true => 2 | false => 1
noncomputable def r16 (σ : St) : Bool := match m_l16 σ with | some (_, some (.bool true)) => true | _ => false
/-- what is reckoned for a pair -/
structure PairOk (p k : Nat) (w du : D) (σ3 σ4 σ5 σ6 σ7 σ8 σ9 σ10 σ11 σ12 σ13 : St) (tv : Bool) : Prop where
  pos : 0 < p
  e3 : m_l3 (st0 p k) = some (σ3, none)
  e4 : m_l4 σ3 = some (σ4, none)
  e5 : m_l5 σ4 = some (σ5, none)
  e6 : m_l6 σ5 = some (σ6, none)
  e7 : m_l7 σ6 = some (σ7, none)
  e8 : m_l8 σ7 = some (σ8, none)
  e9 : m_l9 σ8 = some (σ9, none)
  e10 : m_l10 σ9 = some (σ10, none)
  e11 : m_l11 σ10 = some (σ11, none)
  e12 : m_l12 σ11 = some (σ12, none)
  e13 : m_l13 σ12 = some (σ13, none)
  hw : σ13[3]? = some (.val w)
  hd : σ13[4]? = some (.val du)
  hp : σ13[1]? = some (.val (.int p))
  chk : ∀ cs : List Nat, cs.length = 3 → (∀ c ∈ cs, c < p) → sharedChk w du p cs = true
  e15 : t_l15 ((σ13.set 11 (.val (.int 0))).set 11 (.val (.int 1))) = some tv
  e16 : ∀ r : Nat, r < twoOne tv → r16 (((σ13.set 11 (.val (.int 0))).set 11 (.val (.int 1))).set 12 (.val (.int (1 + r)))) = true
noncomputable def PairEx (p k : Nat) : Prop := ∃ w du σ3 σ4 σ5 σ6 σ7 σ8 σ9 σ10 σ11 σ12 σ13 tv, PairOk p k w du σ3 σ4 σ5 σ6 σ7 σ8 σ9 σ10 σ11 σ12 σ13 tv

/-- power = 1 + _law_take(box, 2) if .. else 1 -/
theorem law_seg15 {C : Cx} (O : C.Ok) {ib io : Nat} {ab al : Addr} {xo : Str} (HB : HasBox C ib (Str.ofString "box") ab) (STk : STake C.G 1) (hlv : 1 ≤ C.lv) (hk : C.env.kindOf "_law_take" = some .globalImplicit) (no : C.names[io]? = some xo) (hro : io < C.ro)
    {X P : AS} {N : Nat} {s0 s : Shared} {σ : St} (g : Go C X P ab al N s0 σ s) (hN : N ≤ 1000) (nn : s0.heap.get? ab = none ∧ s0.heap.get? al = none) {t : Expr} {mt : Ft} {tv : Bool} (ht : ST C (isTrue t C.env (eval t C.env)) mt) (et : mt σ = some tv) {kd1 kd2 kd3 : Nat} {p1 p2 p3 p4 p5 fp bp cp pi : Pos} {Q : Flow → Shared → Prop} {rest : List Stmt}
    (hsw : swapsWith (.IfExp t (.BinOp (.Constant (.int 1) kd1 p2) .Add (.Call (.Name "_law_take" fp) [.Name "box" bp, .Constant (.int 2) kd2 p3] [] cp) p4) (.Constant (.int 1) kd3 p5) pi) (some (.Name xo p1)) cp.line C.env = pure false) {pos : Pos} (hpos : pos.line = cp.line)
    (k : ∀ (r : Nat) s', r < twoOne tv → (∃ N', Go C X P ab al N' s0 (σ.set io (.val (.int (1 + r)))) s') → W C.G C.A (execs rest C.env) Q s') :
    W C.G C.A (execs (.Assign [.Name xo p1] (.IfExp t (.BinOp (.Constant (.int 1) kd1 p2) .Add (.Call (.Name "_law_take" fp) [.Name "box" bp, .Constant (.int 2) kd2 p3] [] cp) p4) (.Constant (.int 1) kd3 p5) pi) pos :: rest) C.env) Q s := by
  obtain ⟨U, R⟩ := g.rel
  have store : ∀ (r : Nat) tk s₁ N', r < twoOne tv → (∃ h' tk, s₁ = { s with heap := h', toks := tk }) → (∀ b o, b ≠ ab → b ≠ al → s.heap.get? b = some o → s₁.heap.get? b = some o) → BoxOk ab al N' s₁.heap → Rel C X P U σ s₁ →
      W C.G C.A (storeName C.env xo (.int (1 + r : Int) tk)) (fun _ s' => W C.G C.A (execs rest C.env) Q s') s₁ := fun r tk s₁ N' hr sh kp B R₁ => by
    obtain ⟨ρ, V⟩ := R₁.vars
    refine st_name O R₁ V.fr hro no fun h' tk' qc F => ?_
    have R₂ := (R₁.stored O V no hro qc F (.val (.int (1 + r : Int))) ⟨_, upd_eq, .int _ _⟩ (tk := tk') fun ds a e => by cases e).1
    have nb : ∀ b o, s0.heap.get? b = some o → b ≠ ab ∧ b ≠ al := fun b o e => ⟨fun z => (by rw [z, nn.1] at e; cases e), fun z => (by rw [z, nn.2] at e; cases e)⟩
    exact k r _ hr ⟨N', ⟨U, R₂⟩, shape_trans g.sh (shape_trans sh ⟨h', tk', rfl⟩), fun b o n z => qc.kp b o (g.live b o z) (kp b o (nb b o z).1 (nb b o z).2 (g.kp b o n z)), g.live, g.xa, g.xl, B.kept (fun o z => qc.kp _ _ (R₁.xp _ g.xa) z) fun o z => qc.kp _ _ (R₁.xp _ g.xl) z⟩
  refine wpAny_execs_cons (wpAny_Assign_Name (IfExp_ (ht X P U σ s _ R tv et fun s₁ K => ?_)) (by rw [hpos]; exact hsw))
  have R₁ := R.keeps K
  have B₁ := g.box.kept (fun o e => keeps_get K _ _ e) fun o e => keeps_get K _ _ e
  cases tv with
  | true =>
    simp only [if_true]
    refine wpAny_BinOp (wpAny_Constant_int ?_)
    refine take_call O HB STk hlv hk (R₁.keeps (keeps_tok s₁ (s₁.toks + 1))) g.xa g.xl B₁ hN (many := 2) (by decide) fun r t s₂ hr sh kp B2 R₂ => ?_
    exact PyProof.Rows.add_int (store r _ _ _ hr (shape_trans (keeps_shape K) (shape_trans ⟨_, _, rfl⟩ (shape_trans sh ⟨_, _, rfl⟩))) (fun b o n1 n2 e => kp b o n1 n2 (keeps_get K _ _ e)) B2 (R₂.keeps (keeps_tok s₂ _)))
  | false =>
    simp only [Bool.false_eq_true, if_false]
    exact wpAny_Constant_int (store 0 _ _ _ (by decide) (shape_trans (keeps_shape K) ⟨_, _, rfl⟩) (fun b o n1 n2 e => keeps_get K _ _ e) B₁ (R₁.keeps (keeps_tok s₁ _)))

theorem MonC.put {G : Gx} (O : G.Ok) (hD : ∀ d ∈ theDefs, d ∈ G.defs) (hc : MonC G) {h : Heap} (sub : ∀ b o, G.h0.get? b = some o → h.get? b = some o) : MonC (G.put h) := by
  intro a o pm code doc h1 h2 h3
  obtain ⟨a', o', pm', code', doc', g1, g2, g3, g4⟩ := O.T.fn _ (hD _ (dr_in (i := 48) (by kernel_rfl)))
  have e1 : a' = a := by have := g1.symm.trans h1; cases this; rfl
  subst e1
  have e2 : o' = o := by have := (sub _ _ g2).symm.trans h2; cases this; rfl
  subst e2
  exact hc _ _ _ _ _ h1 g2 h3
theorem STake.put {G : Gx} {n : Nat} (S : STake G n) : True := trivial

theorem law_tail {G : Gx} (O : G.Ok) (hD : ∀ d ∈ theDefs, d ∈ G.defs) (LB : LamB G theL.cm theL.tab) (hc : MonC G) {h : Heap} (N : Nx G theL h) {A : Around} {pm code doc : Value} {L fa ab al : Addr} (O1 : (lawC1 G A (fdOf (dr 52) pm code doc) L fa ab).Ok) {X P : AS} {s0 s : Shared}
    (nn : s0.heap.get? ab = none ∧ s0.heap.get? al = none) {M : Nat} (hM : M ≤ 10) {p k : Nat} {w du : D} {σ3 σ4 σ5 σ6 σ7 σ8 σ9 σ10 σ11 σ12 σ13 : St} {tv : Bool} (PO : PairOk p k w du σ3 σ4 σ5 σ6 σ7 σ8 σ9 σ10 σ11 σ12 σ13 tv)
    (Gs : Go ((lawC1 G A (fdOf (dr 52) pm code doc) L fa ab).put h) X P ab al M s0 σ4 s) {Q : Flow → Shared → Prop}
    (kk : ∀ s', (∃ h' tk, s' = { s0 with heap := h', toks := tk }) → (∀ b o, b ≠ theL.tab → s0.heap.get? b = some o → s'.heap.get? b = some o) → (∃ ps, s'.heap.get? theL.tab = some (tabObj ps)) → Q (.ret (.bool true)) s') :
    W G (A.deeper (lawC1 G A (fdOf (dr 52) pm code doc) L fa ab).env) (execs ((dr 52).body.drop 4) (lawC1 G A (fdOf (dr 52) pm code doc) L fa ab).env) Q s := by
  have Og2 := N.ok O
  have LB2 := LB.keeps N.sub
  have hc2 := MonC.put O hD hc N.sub
  have s_extended : SF (G.put h) 1 "extended" F_extended := sf_extended Og2 hD 
  have s_inverse_mod : SF (G.put h) 2 "inverse_mod" F_inverse_mod := sf_inverse_mod Og2 hD s_extended
  have s_least_divisor : SF (G.put h) 1 "least_divisor" F_least_divisor := sf_least_divisor Og2 hD 
  have s_prime_factors : SF (G.put h) 2 "prime_factors" F_prime_factors := sf_prime_factors Og2 hD s_least_divisor
  have s_mtrim : SF (G.put h) 1 "mtrim" F_mtrim := sf_mtrim Og2 hD 
  have s_mdegree : SF (G.put h) 1 "mdegree" F_mdegree := sf_mdegree Og2 hD 
  have s_mlead : SF (G.put h) 1 "mlead" F_mlead := sf_mlead Og2 hD 
  have s_madd : SF (G.put h) 2 "madd" F_madd := sf_madd Og2 hD s_mtrim
  have s_mneg : SF (G.put h) 1 "mneg" F_mneg := sf_mneg Og2 hD 
  have s_msub : SF (G.put h) 3 "msub" F_msub := sf_msub Og2 hD s_mneg s_madd
  have s_mscale : SF (G.put h) 2 "mscale" F_mscale := sf_mscale Og2 hD s_mtrim
  have s_mmul : SF (G.put h) 2 "mmul" F_mmul := sf_mmul Og2 hD s_mtrim
  have s_mdivmod : SF (G.put h) 3 "mdivmod" F_mdivmod := sf_mdivmod Og2 hD s_mtrim s_inverse_mod
  have s_mrest : SF (G.put h) 4 "mrest" F_mrest := sf_mrest Og2 hD s_mdivmod
  have s_mquotient : SF (G.put h) 4 "mquotient" F_mquotient := sf_mquotient Og2 hD s_mdivmod
  have s_mmonic : SF (G.put h) 3 "mmonic" F_mmonic := sf_mmonic Og2 hD s_inverse_mod s_mscale
  have s_mderive : SF (G.put h) 2 "mderive" F_mderive := sf_mderive Og2 hD s_mtrim
  have s_mpower_mod : SF (G.put h) 5 "mpower_mod" F_mpower_mod := sf_mpower_mod Og2 hD s_mmul s_mrest
  have s_mproduct : SF (G.put h) 3 "mproduct" F_mproduct := sf_mproduct Og2 hD s_mmul
  have s_morder : SF (G.put h) 1 "morder" F_morder := sf_morder Og2 hD 
  have s_mroot : SF (G.put h) 1 "mroot" F_mroot := sf_mroot Og2 hD 
  have s_mgcd : SF (G.put h) 5 "mgcd" F_mgcd := sf_mgcd Og2 hD s_mmonic s_mrest
  have s_parts_once : SF (G.put h) 6 "parts_once" F_parts_once := sf_parts_once Og2 hD s_mdegree s_mquotient s_mgcd s_mderive
  have s_square_free_parts : SF (G.put h) 7 "square_free_parts" F_square_free_parts := sf_square_free_parts Og2 hD s_mdegree s_mroot s_parts_once
  have s_distinct_degrees : SF (G.put h) 6 "distinct_degrees" F_distinct_degrees := sf_distinct_degrees Og2 hD s_mdegree s_mrest s_mquotient s_msub s_mgcd s_mpower_mod
  have s_trace_power : SF (G.put h) 5 "trace_power" F_trace_power := sf_trace_power Og2 hD s_mmul s_mrest s_madd
  have s_split_power : SF (G.put h) 6 "split_power" F_split_power := sf_split_power Og2 hD s_mpower_mod s_msub s_trace_power
  have s_split_once : SF (G.put h) 7 "split_once" F_split_once := sf_split_once Og2 hD s_mdegree s_split_power s_mgcd
  have s_counted : SF (G.put h) 2 "counted" F_counted := sf_counted Og2 hD s_mtrim
  have s_first_split : SF (G.put h) 8 "first_split" F_first_split := sf_first_split Og2 hD s_counted s_split_once s_mrest
  have s_equal_degree : SF (G.put h) 9 "equal_degree" F_equal_degree := sf_equal_degree Og2 hD s_morder s_mdegree s_mquotient s_first_split s_mmonic
  have s_prime_parts : SF (G.put h) 10 "prime_parts" F_prime_parts := sf_prime_parts Og2 hD s_morder s_distinct_degrees s_equal_degree
  have s_factor_order : SF (G.put h) 2 "factor_order" F_factor_order := sf_factor_order Og2 hD s_morder
  have s_mfactor : SF (G.put h) 11 "mfactor" F_mfactor := sf_mfactor Og2 hD s_mlead s_factor_order s_mmonic s_square_free_parts s_prime_parts
  have s_is_prime_mod : SF (G.put h) 6 "is_prime_mod" F_is_prime_mod := sf_is_prime_mod Og2 hD s_mpower_mod s_mrest s_prime_factors s_msub s_mgcd s_mdegree
  have s_berlekamp_matrix : SF (G.put h) 6 "berlekamp_matrix" F_berlekamp_matrix := sf_berlekamp_matrix Og2 hD s_mmul s_mrest s_mpower_mod s_mdegree
  have s_pivot_row : SF (G.put h) 1 "pivot_row" F_pivot_row := sf_pivot_row Og2 hD 
  have s_clear_below : SFM (G.put h) 3 "clear_below" F_clear_below := sf_clear_below Og2 hD s_inverse_mod
  have s_null_space : SF (G.put h) 4 "null_space" F_null_space := sf_null_space Og2 hD s_clear_below s_pivot_row
  have s_count_factors : SF (G.put h) 7 "count_factors" F_count_factors := sf_count_factors Og2 hD s_berlekamp_matrix s_null_space
  have s_gf_size : SF (G.put h) 2 "gf_size" F_gf_size := sf_gf_size Og2 hD s_mdegree
  have s_gf_things : SF (G.put h) 3 "gf_things" F_gf_things := sf_gf_things Og2 hD s_gf_size s_counted
  have s_gf_multiply : SF (G.put h) 5 "gf_multiply" F_gf_multiply := sf_gf_multiply Og2 hD s_mmul s_mrest
  have s_gf_at : SF (G.put h) 6 "gf_at" F_gf_at := sf_gf_at Og2 hD s_gf_multiply s_mscale s_madd
  have s_moebius : SF (G.put h) 3 "moebius" F_moebius := sf_moebius Og2 hD s_prime_factors
  have s_count_prime_polys : SF (G.put h) 4 "count_prime_polys" F_count_prime_polys := sf_count_prime_polys Og2 hD s_moebius
  have s_first_prime_poly : SF (G.put h) 7 "first_prime_poly" F_first_prime_poly := sf_first_prime_poly Og2 hD s_counted s_is_prime_mod
  have s_law_times : SF (G.put h) 1 "_law_times" F_law_times := sf_law_times Og2 hD 
  have s_law_monic : SF (G.put h) 3 "_law_monic" F_law_monic := sf_law_monic Og2 hD LB2 N.ph hc2
  have s_law_primes : SF (G.put h) 4 "_law_primes" F_law_primes := sf_law_primes Og2 hD s_law_monic s_law_times
  have s_take : STake (G.put h) 1 := take_ok Og2 hD
  have s_shared : SShared (G.put h) 6 := shared_ok Og2 hD s_take s_mgcd s_mproduct s_mrest
  have O2 : ((lawC1 G A (fdOf (dr 52) pm code doc) L fa ab).put h).Ok := Cx.put_ok O1 Og2
  have HB : HasBox ((lawC1 G A (fdOf (dr 52) pm code doc) L fa ab).put h) 13 (Str.ofString "box") ab := ⟨law_box.hx, law_box.pin, law_box.fx⟩
  obtain ⟨Wpos, W3, W4, W5, W6, W7, W8, W9, W10, W11, W12, W13, Ww, Wd, Wp, Wchk, W15, W16⟩ := PO
  show W ((lawC1 G A (fdOf (dr 52) pm code doc) L fa ab).put h).G ((lawC1 G A (fdOf (dr 52) pm code doc) L fa ab).put h).A (execs ((dr 52).body.drop 4) ((lawC1 G A (fdOf (dr 52) pm code doc) L fa ab).put h).env) Q s
  refine Gs.step O2 (SS_if (ST_or2 (ST_cmp O2 op_ne (SE_call O2 s_mfactor (Nat.le_of_ble_eq_true rfl) (by kernel_rfl) (SL_cons (SE_var O2 (i := 3) rfl) (SL_cons (SE_var O2 (i := 1) rfl) SL_nil)) (hd := (by kernel_rfl))) (SE_tuple (SL_cons SE_int (SL_cons (SO.eo (SO_comp O2 (es := _) (cn := ["script", "p", "k", "whole", "due", "degree", "some", "told", "both", "m", "roots", "turn", "power", "box"]) (names := ["row"]) (ro := 1) (fi := []) rfl rfl (by kernel_rfl) (SI_list O2 (SE_var O2 (i := 4) rfl)) (fun _ O3 => (LB_last rfl (TG_name O3 (i := 0) rfl (Nat.le_of_ble_eq_true rfl)) ST_t0 (SE_tuple (SL_cons (SE_var O3 (i := 0) rfl) (SL_cons SE_int SL_nil))) rfl rfl)))) SL_nil)))) (ST_cmp O2 op_ne (SE_call O2 s_count_factors (Nat.le_of_ble_eq_true rfl) (by kernel_rfl) (SL_cons (SE_var O2 (i := 3) rfl) (SL_cons (SE_var O2 (i := 1) rfl) SL_nil)) (hd := (by kernel_rfl))) (SE_blt O2 bl_len PyProof.Rows.Boot.«len» (.inl ⟨_, rfl⟩) (by decide) (by kernel_rfl) (SLB_cons (SB_var O2 (i := 4) rfl) SLB_nil)))) (SS_cons (SS_ret SE_bool) SS_nil) SS_nil) W5 fun s5 G5 => ?_
  clear Gs
  have Gs := G5
  clear G5
  refine Gs.step O2 (SS_for O2 (SI_blt O2 bl_range PyProof.Rows.Boot.«range» (.inr ⟨_, rfl⟩) (by decide) (by kernel_rfl) (SL_cons SE_int (SL_cons (SE_bin O2 op_add (SE_var O2 (i := 2) rfl) SE_int) SL_nil))) (TG_name O2 (i := 5) rfl (Nat.le_of_ble_eq_true rfl)) rfl (SS_cons (SS_asg O2 (SO.eo (SO_comp O2 (es := _) (cn := ["script", "p", "k", "whole", "due", "degree", "some", "told", "both", "m", "roots", "turn", "power", "box"]) (names := ["row", "degree"]) (ro := 1) (fi := [5]) rfl rfl (by kernel_rfl) (SI_list O2 (SE_call O2 s_law_primes (Nat.le_of_ble_eq_true rfl) (by kernel_rfl) (SL_cons (SE_var O2 (i := 2) rfl) (SL_cons (SE_var O2 (i := 1) rfl) SL_nil)) (hd := (by kernel_rfl)))) (fun _ O3 => (LB_last rfl (TG_name O3 (i := 0) rfl (Nat.le_of_ble_eq_true rfl)) (ST_t1 (ST_cmp O3 op_eq (SE_blt O3 bl_len PyProof.Rows.Boot.«len» (.inl ⟨_, rfl⟩) (by decide) (by kernel_rfl) (SLB_cons (SB_var O3 (i := 0) rfl) SLB_nil)) (SE_bin O3 op_add (SE_var O3 (i := 1) rfl) SE_int))) (SE_var O3 (i := 0) rfl) rfl rfl)))) (i := 6) rfl (Nat.le_of_ble_eq_true rfl) (by kernel_rfl)) (SS_cons (SS_if (ST_or2 (ST_cmp O2 op_ne (SE_blt O2 bl_len PyProof.Rows.Boot.«len» (.inl ⟨_, rfl⟩) (by decide) (by kernel_rfl) (SLB_cons (SB_var O2 (i := 6) rfl) SLB_nil)) (SE_call O2 s_count_prime_polys (Nat.le_of_ble_eq_true rfl) (by kernel_rfl) (SL_cons (SE_var O2 (i := 1) rfl) (SL_cons (SE_var O2 (i := 5) rfl) SL_nil)) (hd := (by kernel_rfl)))) (ST_cmp O2 op_ne (SE_idx (SB_var O2 (i := 6) rfl) SE_int) (SE_call O2 s_first_prime_poly (Nat.le_of_ble_eq_true rfl) (by kernel_rfl) (SL_cons (SE_var O2 (i := 1) rfl) (SL_cons (SE_var O2 (i := 5) rfl) SL_nil)) (hd := (by kernel_rfl))))) (SS_cons (SS_ret SE_bool) SS_nil) SS_nil) (SS_cons (SS_if (ST_cmp O2 op_ne (SO.eo (SO_comp O2 (es := _) (cn := ["script", "p", "k", "whole", "due", "degree", "some", "told", "both", "m", "roots", "turn", "power", "box"]) (names := ["row", "p", "some"]) (ro := 1) (fi := [1, 6]) rfl rfl (by kernel_rfl) (SI_list O2 (SE_call O2 s_law_monic (Nat.le_of_ble_eq_true rfl) (by kernel_rfl) (SL_cons (SE_var O2 (i := 5) rfl) (SL_cons (SE_var O2 (i := 1) rfl) SL_nil)) (hd := (by kernel_rfl)))) (fun _ O3 => (LB_last rfl (TG_name O3 (i := 0) rfl (Nat.le_of_ble_eq_true rfl)) (ST_t1 (ST_cmp O3 op_ne (SE_call O3 s_is_prime_mod (Nat.le_of_ble_eq_true rfl) (by kernel_rfl) (SL_cons (SE_var O3 (i := 0) rfl) (SL_cons (SE_var O3 (i := 1) rfl) SL_nil)) (hd := (by kernel_rfl))) (SE_cmp O3 op_in (SE_var O3 (i := 0) rfl) (SE_var O3 (i := 2) rfl)))) (SE_var O3 (i := 0) rfl) rfl rfl)))) (SO.eo (SO_list SL_nil))) (SS_cons (SS_ret SE_bool) SS_nil) SS_nil) SS_nil)))) W6 fun s6 G6 => ?_
  clear Gs
  have Gs := G6
  clear G6
  refine Gs.step O2 (SS_asg O2 (SE_call O2 s_distinct_degrees (Nat.le_of_ble_eq_true rfl) (by kernel_rfl) (SL_cons (SE_var O2 (i := 3) rfl) (SL_cons (SE_var O2 (i := 1) rfl) SL_nil)) (hd := (by kernel_rfl))) (i := 7) rfl (Nat.le_of_ble_eq_true rfl) (by kernel_rfl)) W7 fun s7 G7 => ?_
  clear Gs
  have Gs := G7
  clear G7
  refine Gs.step O2 (SS_if (ST_cmp O2 op_ne (SO.eo (SO_comp O2 (es := _) (cn := ["script", "p", "k", "whole", "due", "degree", "some", "told", "both", "m", "roots", "turn", "power", "box"]) (names := ["row", "degree"]) (ro := 2) (fi := []) rfl rfl (by kernel_rfl) (SI_list O2 (SE_var O2 (i := 7) rfl)) (fun _ O3 => (LB_last rfl (TG_tup O3 (Elts_cons (i := 0) rfl (Nat.le_of_ble_eq_true rfl) (Elts_cons (i := 1) rfl (Nat.le_of_ble_eq_true rfl) Elts_nil))) ST_t0 (SE_var O3 (i := 1) rfl) rfl rfl)))) (SO.eo (SO_comp O2 (es := _) (cn := ["script", "p", "k", "whole", "due", "degree", "some", "told", "both", "m", "roots", "turn", "power", "box"]) (names := ["degree", "k"]) (ro := 1) (fi := [2]) rfl rfl (by kernel_rfl) (SI_blt O2 bl_range PyProof.Rows.Boot.«range» (.inr ⟨_, rfl⟩) (by decide) (by kernel_rfl) (SL_cons SE_int (SL_cons (SE_bin O2 op_add (SE_var O2 (i := 2) rfl) SE_int) SL_nil))) (fun _ O3 => (LB_last rfl (TG_name O3 (i := 0) rfl (Nat.le_of_ble_eq_true rfl)) (ST_t1 (ST_cmp O3 op_eq (SE_bin O3 op_mod (SE_var O3 (i := 1) rfl) (SE_var O3 (i := 0) rfl)) SE_int)) (SE_var O3 (i := 0) rfl) rfl rfl))))) (SS_cons (SS_ret SE_bool) SS_nil) SS_nil) W8 fun s8 G8 => ?_
  clear Gs
  have Gs := G8
  clear G8
  refine Gs.step O2 (SS_for O2 (SI_list O2 (SE_var O2 (i := 7) rfl)) (TG_tup O2 (Elts_cons (i := 8) rfl (Nat.le_of_ble_eq_true rfl) (Elts_cons (i := 5) rfl (Nat.le_of_ble_eq_true rfl) Elts_nil))) rfl (SS_cons (SS_if (ST_cmp O2 op_ne (SE_var O2 (i := 8) rfl) (SE_call O2 s_mproduct (Nat.le_of_ble_eq_true rfl) (by kernel_rfl) (SL_cons (SO.eo (SO_comp O2 (es := _) (cn := ["script", "p", "k", "whole", "due", "degree", "some", "told", "both", "m", "roots", "turn", "power", "box"]) (names := ["row", "degree"]) (ro := 1) (fi := [5]) rfl rfl (by kernel_rfl) (SI_list O2 (SE_var O2 (i := 4) rfl)) (fun _ O3 => (LB_last rfl (TG_name O3 (i := 0) rfl (Nat.le_of_ble_eq_true rfl)) (ST_t1 (ST_cmp O3 op_eq (SE_blt O3 bl_len PyProof.Rows.Boot.«len» (.inl ⟨_, rfl⟩) (by decide) (by kernel_rfl) (SLB_cons (SB_var O3 (i := 0) rfl) SLB_nil)) (SE_bin O3 op_add (SE_var O3 (i := 1) rfl) SE_int))) (SE_var O3 (i := 0) rfl) rfl rfl)))) (SL_cons (SE_var O2 (i := 1) rfl) SL_nil)) (hd := (by kernel_rfl)))) (SS_cons (SS_ret SE_bool) SS_nil) SS_nil) SS_nil)) W9 fun s9 G9 => ?_
  clear Gs
  have Gs := G9
  clear G9
  refine Gs.step O2 (SS_asg O2 (SE_call O2 s_first_prime_poly (Nat.le_of_ble_eq_true rfl) (by kernel_rfl) (SL_cons (SE_var O2 (i := 1) rfl) (SL_cons (SE_var O2 (i := 2) rfl) SL_nil)) (hd := (by kernel_rfl))) (i := 9) rfl (Nat.le_of_ble_eq_true rfl) (by kernel_rfl)) W10 fun s10 G10 => ?_
  clear Gs
  have Gs := G10
  clear G10
  refine Gs.step O2 (SS_seqF 10 (SS_asgComp O2 (i := 10) (es := _) (cn := ["script", "p", "k", "whole", "due", "degree", "some", "told", "both", "m", "roots", "turn", "power", "box"]) (names := ["row", "m", "p"]) (ro := 1) (fi := [9, 1]) rfl (Nat.le_of_ble_eq_true rfl) rfl rfl (by kernel_rfl) (SI_list O2 (SE_var O2 (i := 4) rfl)) (fun _ O3 => (LB_last rfl (TG_name O3 (i := 0) rfl (Nat.le_of_ble_eq_true rfl)) ST_t0 (SO.eo (SO_comp O3 (es := _) (cn := ["row", "m", "p"]) (names := ["thing", "row", "m", "p"]) (ro := 1) (fi := [0, 1, 2]) rfl rfl (by kernel_rfl) (SI_list O3 (SE_call O3 s_gf_things (Nat.le_of_ble_eq_true rfl) (by kernel_rfl) (SL_cons (SE_var O3 (i := 1) rfl) (SL_cons (SE_var O3 (i := 2) rfl) SL_nil)) (hd := (by kernel_rfl)))) (fun _ O4 => (LB_last rfl (TG_name O4 (i := 0) rfl (Nat.le_of_ble_eq_true rfl)) (ST_t1 (ST_cmp O4 op_eq (SE_call O4 s_gf_at (Nat.le_of_ble_eq_true rfl) (by kernel_rfl) (SL_cons (SE_var O4 (i := 1) rfl) (SL_cons (SE_var O4 (i := 0) rfl) (SL_cons (SE_var O4 (i := 2) rfl) (SL_cons (SE_var O4 (i := 3) rfl) SL_nil)))) (hd := (by kernel_rfl))) (SO.eo (SO_list SL_nil)))) (SE_var O4 (i := 0) rfl) rfl rfl)))) rfl rfl)) (by kernel_rfl))) W11 fun s11 G11 => ?_
  clear Gs
  have Gs := G11
  clear G11
  refine Gs.step O2 (SS_if (ST_cmp O2 op_ne (SO.eo (SO_comp O2 (es := _) (cn := ["script", "p", "k", "whole", "due", "degree", "some", "told", "both", "m", "roots", "turn", "power", "box"]) (names := ["row"]) (ro := 1) (fi := []) rfl rfl (by kernel_rfl) (SI_list O2 (SE_var O2 (i := 10) rfl)) (fun _ O3 => (LB_last rfl (TG_name O3 (i := 0) rfl (Nat.le_of_ble_eq_true rfl)) ST_t0 (SE_blt O3 bl_len PyProof.Rows.Boot.«len» (.inl ⟨_, rfl⟩) (by decide) (by kernel_rfl) (SLB_cons (SB_var O3 (i := 0) rfl) SLB_nil)) rfl rfl)))) (SO.eo (SO_comp O2 (es := _) (cn := ["script", "p", "k", "whole", "due", "degree", "some", "told", "both", "m", "roots", "turn", "power", "box"]) (names := ["row"]) (ro := 1) (fi := []) rfl rfl (by kernel_rfl) (SI_list O2 (SE_var O2 (i := 4) rfl)) (fun _ O3 => (LB_last rfl (TG_name O3 (i := 0) rfl (Nat.le_of_ble_eq_true rfl)) ST_t0 (SE_bin O3 op_sub (SE_blt O3 bl_len PyProof.Rows.Boot.«len» (.inl ⟨_, rfl⟩) (by decide) (by kernel_rfl) (SLB_cons (SB_var O3 (i := 0) rfl) SLB_nil)) SE_int) rfl rfl))))) (SS_cons (SS_ret SE_bool) SS_nil) SS_nil) W12 fun s12 G12 => ?_
  clear Gs
  have Gs := G12
  clear G12
  refine Gs.step O2 (SS_if (ST_cmp O2 op_ne (SO.eo (SO_blt O2 bl_sort PyProof.Rows.Boot.«sorted» (.inl ⟨_, rfl⟩) (by decide) (by kernel_rfl) (SLB_cons (SE.b (SE_bltV O2 bl_sum PyProof.Rows.Boot.«sum» (.inl ⟨_, rfl⟩) (by decide) (by kernel_rfl) (SL_cons (SE_var O2 (i := 10) rfl) (SL_cons (SO.eo (SO_list SL_nil)) SL_nil)))) SLB_nil))) (SO.eo (SO_blt O2 bl_sort PyProof.Rows.Boot.«sorted» (.inl ⟨_, rfl⟩) (by decide) (by kernel_rfl) (SLB_cons (SE.b (SE_call O2 s_gf_things (Nat.le_of_ble_eq_true rfl) (by kernel_rfl) (SL_cons (SE_var O2 (i := 9) rfl) (SL_cons (SE_var O2 (i := 1) rfl) SL_nil)) (hd := (by kernel_rfl)))) SLB_nil)))) (SS_cons (SS_ret SE_bool) SS_nil) SS_nil) W13 fun s13 G13 => ?_
  clear Gs
  have Gs := G13
  clear G13
  obtain ⟨U, R⟩ := Gs.rel
  refine wpAny_execs_cons (law_seg14 O2 (iw := 3) (id := 4) (ip := 1) (it := 11) HB s_shared (Nat.le_of_ble_eq_true rfl) (by kernel_rfl) rfl rfl rfl R Gs.xa Gs.xl Gs.box (by omega) Wpos Ww Wd Wp Wchk (SI_blt O2 bl_range PyProof.Rows.Boot.«range» (.inr ⟨_, rfl⟩) (by decide) (by kernel_rfl) (SL_cons SE_int SL_nil)) rfl rfl (TG_name O2 (i := 11) rfl (Nat.le_of_ble_eq_true rfl)) (by decide) (fun _ => rfl) fun s14 U14 sh14 kp14 B14 R14 => ?_)
  have nb : ∀ b o, s0.heap.get? b = some o → b ≠ ab ∧ b ≠ al := fun b o e => ⟨fun z => (by rw [z, nn.1] at e; cases e), fun z => (by rw [z, nn.2] at e; cases e)⟩
  have G14 : Go ((lawC1 G A (fdOf (dr 52) pm code doc) L fa ab).put h) X P ab al (M + 6) s0 ((σ13.set 11 (.val (.int 0))).set 11 (.val (.int 1))) s14 :=
    ⟨⟨U14, R14⟩, shape_trans Gs.sh sh14, fun b o n e => kp14 b o (Gs.live b o e) (nb b o e).1 (nb b o e).2 (Gs.kp b o n e), Gs.live, Gs.xa, Gs.xl, B14⟩
  refine law_seg15 O2 (io := 12) HB s_take (Nat.le_of_ble_eq_true rfl) (by kernel_rfl) rfl (Nat.le_of_ble_eq_true rfl) G14 (by omega) nn (ST_cmp O2 op_lt (SE_blt O2 bl_len PyProof.Rows.Boot.«len» (.inl ⟨_, rfl⟩) (by decide) (by kernel_rfl) (SLB_cons (SB_var O2 (i := 3) rfl) SLB_nil)) SE_int) W15 (by kernel_rfl) rfl fun rr s15 hr G15 => ?_
  obtain ⟨N', G15⟩ := G15
  have h16 := W16 rr hr
  unfold r16 at h16
  split at h16
  · rename_i σ' e16
    obtain ⟨U15, R15⟩ := G15.rel
    have body : SS ((lawC1 G A (fdOf (dr 52) pm code doc) L fa ab).put h) (execs ((dr 52).body.drop 15) ((lawC1 G A (fdOf (dr 52) pm code doc) L fa ab).put h).env) (sSeq m_l16 sNil) := SS_cons (SS_ret (SE_cmp O2 op_eq (SE_idx (SE.b (SE_call O2 s_mfactor (Nat.le_of_ble_eq_true rfl) (by kernel_rfl) (SL_cons (SE_call O2 s_mproduct (Nat.le_of_ble_eq_true rfl) (by kernel_rfl) (SL_cons (SO.eo (SO_cat (SE.b (SO.eo (SO_rep (SE.b (SO.eo (SO_list (SL_cons (SE_var O2 (i := 3) rfl) SL_nil)))) (SE_var O2 (i := 12) rfl)))) (SE.b (SO.eo (SO_list (SL_cons (SO.eo (SO_list (SL_cons SE_int (SL_cons SE_int SL_nil)))) SL_nil)))))) (SL_cons (SE_var O2 (i := 1) rfl) SL_nil)) (hd := (by kernel_rfl))) (SL_cons (SE_var O2 (i := 1) rfl) SL_nil)) (hd := (by kernel_rfl)))) SE_int) (SO.eo (SO_comp O2 (es := _) (cn := ["script", "p", "k", "whole", "due", "degree", "some", "told", "both", "m", "roots", "turn", "power", "box"]) (names := ["row", "power"]) (ro := 1) (fi := [12]) rfl rfl (by kernel_rfl) (SI_list O2 (SE_var O2 (i := 4) rfl)) (fun _ O3 => (LB_last rfl (TG_name O3 (i := 0) rfl (Nat.le_of_ble_eq_true rfl)) ST_t0 (SE_tuple (SL_cons (SE_var O3 (i := 0) rfl) (SL_cons (SE_bin O3 op_add (SE_var O3 (i := 1) rfl) (SE_bltV O3 bl_int PyProof.Rows.Boot.«int» (.inr ⟨_, rfl⟩) (by decide) (by kernel_rfl) (SL_cons (SE_cmp O3 op_eq (SE_var O3 (i := 0) rfl) (SO.eo (SO_list (SL_cons SE_int (SL_cons SE_int SL_nil))))) SL_nil))) SL_nil))) rfl rfl)))))) SS_nil
    refine body X P U15 _ s15 _ R15 σ' (some (.bool true)) (by unfold sSeq; rw [e16]) fun fl s16 p16 => ?_
    obtain ⟨q1, q2, v, rfl, hv⟩ := p16
    cases hv
    obtain ⟨c', ht, _⟩ := N.ph
    obtain ⟨z1, z2, _⟩ := R15.base _ _ ht
    exact kk s16 (shape_trans G15.sh q1) (fun b o n e => q2 b o (G15.live b o e) (G15.kp b o n e)) ⟨_, q2 _ _ z2 z1⟩
  · cases h16
end Pf

namespace Pf
open PySem PySem.Calls PyProof.Rows PySem.W

theorem SS.use {C : Cx} {t : Sem Flow} {m : Fs} (h : SS C t m) {X P U : AS} {σ σ' : St} {r : Option D} {s : Shared} {Q : Flow → Shared → Prop} (R : Rel C X P U σ s) (e : m σ = some (σ', r)) (k : ∀ fl s', Post C X P s σ' r fl s' → Q fl s') : W C.G C.A t Q s := h X P U σ s Q R σ' r e k
theorem SSt.use {l : Lx} {C : Cx} {t : Sem Flow} {m : Fs} (h : SSt l C t m) {X P U : AS} {σ σ' : St} {r : Option D} {s : Shared} {Q : Flow → Shared → Prop} (R : Rel C X P U σ s) (pr : Pre C l X P s) (e : m σ = some (σ', r)) (k : ∀ fl s', PostT l C X P s σ' r fl s' → Q fl s') : W C.G C.A t Q s := h X P U σ s Q R pr σ' r e k
theorem law_core {G : Gx} (O : G.Ok) (hD : ∀ d ∈ theDefs, d ∈ G.defs) (LB : LamB G theL.cm theL.tab) (hc : MonC G) (PA : PairsAt G) (PE : ∀ q ∈ thePairs, PairEx q.1 q.2) (h0 : G.h0.get? theL.tab = none) {A : Around} (hA : A.handled = none) (hR : Room A 12) {s : Shared} (base : ∀ b o, G.h0.get? b = some o → s.heap.get? b = some o) (ht : s.heap.get? theL.tab = some (tabObj #[]))
    {fa : Addr} {o : Obj} {pm code doc : Value} (ho : s.heap.get? fa = some o) (hdt : o.data = .func (fdOf (dr 52) pm code doc)) (hcr : s.heap.CodeRec code (dr 52).name) {l : Addr} {vals : Array Value} {c : Nat} {xs : List Int} (hl : s.heap.get? l = some (lobj vals c)) (hv : Rds (fun _ => False) s.heap vals.toList (xs.map .int)) (hxs : xs.length ≤ 63) {R : Result → Shared → Prop}
    (kk : ∀ s', (∃ h' tk, s' = { s with heap := h', toks := tk }) → (∀ b o, b ≠ theL.tab → s.heap.get? b = some o → s'.heap.get? b = some o) → (∃ ps, s'.heap.get? theL.tab = some (tabObj ps)) → R (.ok (.ret (.bool true))) s') :
    codeAny (model G.prog G.w) A (.call (.ref fa) ⟨[.ref l], []⟩) R s := by
  have hck : fChk (dr 52).scope LN = true := by kernel_rfl
  obtain ⟨hk, hco, hge, _, hkd⟩ := fChk_kinds hck
  refine codeAny_call_cells (fd := fdOf (dr 52) pm code doc) (body := (dr 52).body) (binds := ([Str.ofString "script"] : List Str).zip [.ref l]) hR.depth ho hdt (O.T.nolimit.keeps base) hcr rfl rfl rfl (fun x hx => ?_) (fun s₁ I => W.any (G := G) ?_) hco hge hk
  · have hx' : x.1 ∈ LN := by
      have := (List.of_mem_zip (a := x.1) (b := x.2) hx).1
      simp at this
      rw [this]; decide
    rcases hkd x.1 hx' with h | h
    · exact .inl h
    · refine .inr ⟨h, ?_⟩
      obtain ⟨c, hc⟩ := cellsFrom_some (dr 52).scope.names (s.heap.objs.size + 1) x.1 (lookup_mem h)
      exact Option.isSome_iff_exists.mpr ⟨c, hc⟩
  have ER := entry_rel (σ := .val (.list (xs.map .int)) :: List.replicate 13 .un) (X := fun _ => False) (U := fun _ => False) (P := fun b => ∃ o, s.heap.get? b = some o) (n := 11) (pin := 14) (fx := fun _ => none) O hA hR (fd := fdOf (dr 52) pm code doc) rfl rfl hck (pn := ["script"]) (vs := [.ref l]) rfl I
    (fun b o e => ⟨base b o e, ⟨o, base b o e⟩, fun q => q⟩) (fun _ q => q) (fun _ q => q.elim) (fun _ q => q.elim) (fun _ q => q) (fun _ q => q.elim) rfl (by decide) (fun i y sl hy hs => by
      match i, hy, hs with
      | 0, hy, hs =>
        simp [LN] at hy hs
        subst hy hs
        exact .inr ⟨.ref l, by simp, .ref l, rfl, .list (fun q => q) hl hv⟩
      | i + 1, hy, hs =>
        rw [List.getElem?_cons_succ, List.getElem?_replicate] at hs
        split at hs <;> cases hs
        exact .inl rfl) (fun i y hi hy => by
      have := (List.getElem?_eq_some_iff.mp hy).1
      have e : LN.length = 14 := rfl
      omega) (fun i j y z es fs b _ _ hi hj _ _ => by
      match i, hi with
      | 0, hi => simp at hi
      | i + 1, hi =>
        rw [List.getElem?_cons_succ, List.getElem?_replicate] at hi
        split at hi <;> cases hi)
  obtain ⟨O0, R0⟩ := ER
  have STk := take_ok O hD
  have live1 : ∀ b o, s.heap.get? b = some o → s₁.heap.get? b = some o := I.toInCall.keep
  -- box
  refine wpAny_execs_cons (law_seg1 (G := G) (A := A) (fd := fdOf (dr 52) pm code doc) (L := s.heap.objs.size) (a := fa) O0 hxs rfl R0 (by kernel_rfl) (SO_comp O0 (es := _) (cn := ["script", "p", "k", "whole", "due", "degree", "some", "told", "both", "m", "roots", "turn", "power", "box"]) (names := ["one"]) (ro := 1) (fi := []) rfl rfl (by kernel_rfl) (SI_list O0 (SO.eo (SO_upto (SB_var O0 (i := 0) rfl) SE_int))) (fun _ O1 => (LB_last rfl (TG_name O1 (i := 0) rfl (Nat.le_of_ble_eq_true rfl)) ST_t0 (SE_blt O1 bl_abs PyProof.Rows.Boot.«abs» (.inl ⟨_, rfl⟩) (by decide) (by kernel_rfl) (SLB_cons (SE.b (SE_bltV O1 bl_int PyProof.Rows.Boot.«int» (.inr ⟨_, rfl⟩) (by decide) (by kernel_rfl) (SL_cons (SE_var O1 (i := 0) rfl) SL_nil))) SLB_nil)) rfl rfl))) (fun _ _ => rfl) (by kernel_rfl) fun ab al s₂ sh₂ kp₂ B₂ nb nl R₂ => ?_)
  have O1 := lawC1_ok O0 ab
  have nn : s.heap.get? ab = none ∧ s.heap.get? al = none := by
    constructor
    · cases e : s.heap.get? ab with
      | none => rfl
      | some o => rw [live1 _ _ e] at nb; cases nb
    · cases e : s.heap.get? al with
      | none => rfl
      | some o => rw [live1 _ _ e] at nl; cases nl
  have neT : theL.tab ≠ ab ∧ theL.tab ≠ al := ⟨fun z => (by rw [z, nn.1] at ht; cases ht), fun z => (by rw [z, nn.2] at ht; cases ht)⟩
  -- p, k
  refine wpAny_execs_cons (law_seg2 O1 (ip := 1) (ik := 2) law_box STk (Nat.le_of_ble_eq_true rfl) (by kernel_rfl) (by kernel_rfl) PA R₂ (.inl rfl) (.inr rfl) (.inr (.inl rfl)) (.inr (.inr rfl)) B₂ (by omega) (Elts_cons (i := 1) rfl (Nat.le_of_ble_eq_true rfl) (Elts_cons (i := 2) rfl (Nat.le_of_ble_eq_true rfl) Elts_nil)) (by kernel_rfl) (by kernel_rfl) fun q hq s₃ sh₃ kp₃ B₃ R₃ => ?_)
  obtain ⟨w, du, σ3, σ4, σ5, σ6, σ7, σ8, σ9, σ10, σ11, σ12, σ13, tv, PO⟩ := PE q hq
  have R₃ : Rel (lawC1 G A (fdOf (dr 52) pm code doc) s.heap.objs.size fa ab) (fun b => b = ab ∨ b = al) (fun b => (∃ o, s.heap.get? b = some o) ∨ b = ab ∨ b = al) (fun b => b = ab ∨ b = al) (st0 q.1 q.2) s₃ := R₃
  have live : ∀ b o, s.heap.get? b = some o → (∃ o, s.heap.get? b = some o) ∨ b = ab ∨ b = al := fun b o e => .inl ⟨o, e⟩
  have nab : ∀ b o, s.heap.get? b = some o → b ≠ ab ∧ b ≠ al := fun b o e => ⟨fun z => (by rw [z, nn.1] at e; cases e), fun z => (by rw [z, nn.2] at e; cases e)⟩
  have kp3 : ∀ b o, s.heap.get? b = some o → s₃.heap.get? b = some o := fun b o e => kp₃ b o (live b o e) (nab b o e).1 (nab b o e).2 (kp₂ b o ⟨o, e⟩ (live1 b o e))
  have sh3 := shape_trans I.toInCall.same (shape_trans sh₂ sh₃)
  -- whole
  refine wpAny_execs_cons (SS.use (C := (lawC1 G A (fdOf (dr 52) pm code doc) s.heap.objs.size fa ab)) (m := m_l3) ?st3 R₃ PO.e3 fun fl s₄ p₄ => ?_)
  case st3 => exact (SS_asg O1 (SO.eo (SO_cat (SE.b (SO.eo (SO_cat (SE.b (SO.eo (SO_list (SL_cons SE_int (SL_cons (SE_bin O1 op_sub (SE_var O1 (i := 1) rfl) SE_int) SL_nil))))) (SE.b (SO.eo (SO_rep (SE.b (SO.eo (SO_list (SL_cons SE_int SL_nil)))) (SE_bin O1 op_sub (SE_bin O1 op_pow (SE_var O1 (i := 1) rfl) (SE_var O1 (i := 2) rfl)) SE_int))))))) (SE.b (SO.eo (SO_list (SL_cons SE_int SL_nil)))))) (i := 3) rfl (Nat.le_of_ble_eq_true rfl) (by kernel_rfl))
  obtain ⟨q1, q2, rfl, U₄, R₄⟩ := p₄
  have kp4 : ∀ b o, s.heap.get? b = some o → s₄.heap.get? b = some o := fun b o e => q2 b o (live b o e) (kp3 b o e)
  have sh4 := shape_trans sh3 q1
  have B₄ := B₃.kept (fun o e => q2 _ _ (.inr (.inl rfl)) e) fun o e => q2 _ _ (.inr (.inr rfl)) e
  -- due
  have LBs := LB
  have s_mtrim := sf_mtrim O hD
  have s0_law_times := sf_law_times O hD
  have st_law_monic := sft_law_monic O hD LB hc
  have st_law_primes := sft_law_primes O hD st_law_monic (fun h hx => sf_law_monic (hx.ok O) hD (LB.keeps hx.sub) hx.ph (MonC.put O hD hc hx.sub)) s0_law_times (fun h hx => sf_law_times (hx.ok O) hD)
  have pr : Pre (lawC1 G A (fdOf (dr 52) pm code doc) s.heap.objs.size fa ab) theL (fun b => b = ab ∨ b = al) (fun b => (∃ o, s.heap.get? b = some o) ∨ b = ab ∨ b = al) s₄ := ⟨h0, kp4 _ _ ht, fun z => z.elim neT.1 neT.2, .inl ⟨_, ht⟩⟩
  refine wpAny_execs_cons (SSt.use (C := (lawC1 G A (fdOf (dr 52) pm code doc) s.heap.objs.size fa ab)) (m := m_l4) ?st4 R₄ pr PO.e4 fun fl s₅ p₅ => ?_)
  case st4 => exact (SSt_seqF 4 (SSt_asgComp O1 (i := 4) (es := _) (cn := ["script", "p", "k", "whole", "due", "degree", "some", "told", "both", "m", "roots", "turn", "power", "box"]) (names := ["row", "k"]) (ro := 1) (fi := [2]) rfl (Nat.le_of_ble_eq_true rfl) rfl rfl (by kernel_rfl) (SI_listT O1 (SE_callT O1 st_law_primes (Nat.le_of_ble_eq_true rfl) (by kernel_rfl) (SL_cons (SE_var O1 (i := 2) rfl) (SL_cons (SE_var O1 (i := 1) rfl) SL_nil)) (hd := (by kernel_rfl)))) (fun _ _ _ O2 => (LB_last rfl (TG_name O2 (i := 0) rfl (Nat.le_of_ble_eq_true rfl)) (ST_t1 (ST_cmp O2 op_eq (SE_bin O2 op_mod (SE_var O2 (i := 1) rfl) (SE_bin O2 op_sub (SE_blt O2 bl_len PyProof.Rows.Boot.«len» (.inl ⟨_, rfl⟩) (by decide) (by kernel_rfl) (SLB_cons (SB_var O2 (i := 0) rfl) SLB_nil)) SE_int)) SE_int)) (SE_var O2 (i := 0) rfl) rfl rfl)) (by kernel_rfl)))
  obtain ⟨h, T, rfl, U₅, R₅⟩ := p₅
  have Gs : Go ((lawC1 G A (fdOf (dr 52) pm code doc) s.heap.objs.size fa ab).put h) (fun b => b = ab ∨ b = al) (P2 (fun b => (∃ o, s.heap.get? b = some o) ∨ b = ab ∨ b = al) h) ab al 1 s σ4 s₅ :=
    ⟨⟨U₅, R₅⟩, shape_trans sh4 T.shape, fun b o n e => T.keep b o n (live b o e) (kp4 b o e), fun b o e => .inl (live b o e), .inl rfl, .inr rfl, B₄.kept (fun o e => T.keep _ _ neT.1.symm (.inr (.inl rfl)) e) fun o e => T.keep _ _ neT.2.symm (.inr (.inr rfl)) e⟩
  exact law_tail O hD LB hc T.nx O1 nn (by omega) PO Gs fun s' sh kp tb => kk s' sh kp tb
end Pf

namespace Pf
open PySem PySem.Calls PyProof.Rows PySem.W

/- ---- from the head's facts to the walk ---- -/
theorem rdHs_ok {h : Heap} {f : Value → Option D} (hf : ∀ v d, f v = some d → Rd (fun _ => False) h v d) : ∀ (vs : List Value) (ds : List D), rdHs f vs = some ds → Rds (fun _ => False) h vs ds
  | [], ds, e => by cases e; exact .nil
  | v :: vs, ds, e => by
    simp only [rdHs] at e
    split at e
    · rename_i d hd
      split at e <;> cases e
      rename_i ds' hds
      exact .cons (hf v d hd) (rdHs_ok hf vs ds' hds)
    · cases e
theorem rdH_ok {h : Heap} : ∀ (n : Nat) (v : Value) (d : D), rdH h n v = some d → Rd (fun _ => False) h v d
  | 0, v, d, e => by
    unfold rdH at e
    split at e
    · cases e; exact .int _ _
    · cases ‹0 = _ + 1›
    · cases e
  | n + 1, v, d, e => by
    unfold rdH at e
    split at e
    · cases ‹n + 1 = 0›
    · rename_i n' a hn
      cases hn
      split at e
      · rename_i vs c hg
        split at e <;> cases e
        rename_i ds hds
        exact .tuple (fun q => q) hg (rdHs_ok (rdH_ok n) _ _ hds)
      · cases e
    · cases e
structure YP (w : World) (h : Heap) : Prop where
  mon : ∃ m f o fd oc vs, h.Ns mainGlobals m ∧ m "_law_monic" = some (.ref f) ∧ h.get? f = some o ∧ o.data = .func fd ∧ fd.code = .ref 343 ∧ h.get? 343 = some oc ∧ oc.data = .fields vs ∧ vs[11]? = some (.ref 341)
  pairs : ∃ m v, h.Ns mainGlobals m ∧ m "_law_pairs" = some v ∧ Rd (fun _ => False) h v pairsD
theorem YP.of (w : World) (s : Shared) (e : Yo s = Yv w) : YP w s.heap := by
  obtain ⟨e1, e2⟩ := Prod.mk.inj e
  obtain ⟨e1, e3⟩ := Bool.and_eq_true_iff.mp e1
  have N := Heap.Ns.of_isNs e1
  constructor
  · unfold monAt at e3
    split at e3
    · rename_i f hf
      split at e3
      · rename_i fd _ hg
        split at e3
        · rename_i c hc
          obtain ⟨e4, e5⟩ := Bool.and_eq_true_iff.mp e3
          split at e5
          · rename_i vs _ hv
            split at e5
            · rename_i P hP
              have := Nat.eq_of_beq_eq_true e4
              subst this
              have := Nat.eq_of_beq_eq_true e5
              subst this
              exact ⟨_, f, _, fd, _, vs, N, hf, hg, rfl, hc, hv, rfl, hP⟩
            · cases e5
          · cases e5
        · cases e3
      · cases e3
    · cases e3
  · unfold pairsAt at e2
    split at e2
    · rename_i v hv
      exact ⟨_, v, N, hv, rdH_ok 2 v _ e2⟩
    · cases e2
theorem YP.keeps (w : World) (h h' : Heap) (Y : YP w h) (hk : ∀ b o, h.get? b = some o → h'.get? b = some o) : YP w h' := by
  obtain ⟨⟨m, f, o, fd, oc, vs, N, h1, h2, h3, h4, h5, h6, h7⟩, ⟨m', v, N', h8, h9⟩⟩ := Y
  exact ⟨⟨m, f, o, fd, oc, vs, N.keeps hk, h1, hk _ _ h2, h3, h4, hk _ _ h5, h6, h7⟩, ⟨m', v, N'.keeps hk, h8, h9.kept hk⟩⟩
theorem ns_one {h : Heap} {a : Addr} {m m' : Str → Option Value} (N : h.Ns a m) (N' : h.Ns a m') : m = m' := by
  obtain ⟨o, es, ep, h1, h2, _, h3⟩ := N
  obtain ⟨o', es', ep', h1', h2', _, h3'⟩ := N'
  have := h1.symm.trans h1'
  cases this
  have := h2.symm.trans h2'
  cases this
  funext x
  exact (h3 x).symm.trans (h3' x)
noncomputable def freeChk (p : Program) (loose : List Str) (x : Str) : Bool := !startupNames.contains x && !loose.contains x && !((recsOf p).map (·.name)).contains x && !((litsOf p).map (·.1)).contains x && !((clssOf p loose).map (·.name)).contains x
theorem free_of {p : Program} {loose : List Str} {mean : ExcName → Option Value} {mg mb : Str → Option Value} {h : Heap} (T : Top p loose mean mg mb h) {x : Str} (e : freeChk p loose x = true) : mg x = none := by
  simp only [freeChk, Bool.and_eq_true, Bool.not_eq_true', List.contains_eq_mem, decide_eq_false_iff_not] at e
  exact T.free x e.1.1.1.1 e.1.1.1.2 e.1.1.2 e.1.2 e.2
theorem wellInts {P : Params} {h : Heap} : ∀ {vs : List Value} {xs : List Int}, WellAll P h vs (ofPys (xs.map .int)) → Rds (fun _ => False) h vs (xs.map .int)
  | _, [], w => by cases w; exact .nil
  | _, x :: xs, w => by
    cases w with
    | cons w1 w2 =>
      cases w1
      exact .cons (.int _ _) (wellInts w2)
theorem tabs_of {p : Program} {loose : List Str} {mean : ExcName → Option Value} {mg mb : Str → Option Value} {w : World} {h : Heap} (T : Top p loose mean mg mb h) (hrec : recsOf p = theDefs) (Y : YP w h) : TabsAt [(343, 341)] h := by
  obtain ⟨⟨m, f, om, fdm, oc, vsc, N, y1, y2, y3, y4, y5, y6, y7⟩, _⟩ := Y
  rw [ns_one N T.g] at y1
  obtain ⟨a, o, fd, c, P, h1, h2, h3, h4, h5, h6⟩ := T.tab (dr 48) (by rw [hrec]; exact dr_in (by kernel_rfl))
  have e1 : f = a := by have := y1.symm.trans h1; cases this; rfl
  subst e1
  have e2 := y2.symm.trans h2
  cases e2
  have e3 := y3.symm.trans h3
  cases e3
  have e4 := y4.symm.trans h4
  cases e4
  have h6' := h6
  obtain ⟨⟨o', vs', g1, g2, g3, g4⟩, g5⟩ := h6'
  have e5 := y5.symm.trans g1
  cases e5
  have e6 := y6.symm.trans g3
  cases e6
  have e7 := y7.symm.trans g4
  cases e7
  intro q hq
  rcases List.mem_cons.mp hq with rfl | hq
  · exact ⟨CodeHd.of h5 h6, g5⟩
  · cases hq
theorem law_final {prog : Program} {w : World} {p : Program} {loose : List Str} {mean : ExcName → Option Value} {mg mb : Str → Option Value} {s : Shared} (T : Top p loose mean mg mb s.heap) (hrec : recsOf p = theDefs) (hT : TabsAt [(343, 341)] s.heap) (Y : YP w s.heap) (hfree : bltNames.all (freeChk p loose) = true) (PE : ∀ q ∈ thePairs, PairEx q.1 q.2)
    {fa : Addr} {o : Obj} {pm code doc : Value} (ho : s.heap.get? fa = some o) (hdt : o.data = .func (fdOf (dr 52) pm code doc)) (hcr : s.heap.CodeRec code (dr 52).name) {l : Addr} {P : Params} {xs : List Int} (wl : Well P s.heap (.ref l) (ofPy (.list (xs.map .int)))) (hxs : xs.length ≤ 63) {R : Result → Shared → Prop}
    (kk : ∀ s', (∃ h' tk, s' = { s with heap := h', toks := tk }) → (∀ b o, b ≠ 341 → s.heap.get? b = some o → s'.heap.get? b = some o) → (∃ ps, s'.heap.get? 341 = some (tabObj ps)) → R (.ok (.ret (.bool true))) s') :
    codeAny (model prog w) callerA (.call (.ref fa) ⟨[.ref l], []⟩) R s := by
  obtain ⟨⟨m, f, om, fdm, oc, vsc, N, y1, y2, y3, y4, y5, y6, y7⟩, ⟨m', pv, N', y8, y9⟩⟩ := Y
  rw [ns_one N T.g] at y1
  rw [ns_one N' T.g] at y8
  let G : Gx := { prog := prog, w := w, defs := theDefs, mg := mg, mb := mb, h0 := ghostOf s.heap [(343, 341)] }
  have base : ∀ b o, G.h0.get? b = some o → s.heap.get? b = some o := fun b o e => of_hideAll _ e
  have gg : ∀ {b o}, s.heap.get? b = some o → o ≠ tabObj #[] → G.h0.get? b = some o := fun e n => ghost_get hT e n
  have OT : Tp G G.h0 := by
    refine ⟨ghost_ns hT T.g, ghost_ns hT T.b, ?_, fun d hd => ?_, T.builtins⟩
    · obtain ⟨mc, h1, h2⟩ := T.nolimit
      exact ⟨mc, ghost_ns hT h1, h2⟩
    · obtain ⟨a, o, pm, code, doc, h1, h2, h3, h4⟩ := T.fn d (by rw [hrec]; exact hd)
      refine ⟨a, o, pm, code, doc, h1, gg h2 (fun q => by rw [q] at h3; cases h3), h3, ?_⟩
      obtain ⟨c, oc, vs, t, e1, e2, e3, e4⟩ := h4
      exact ⟨c, oc, vs, t, e1, gg e2 (fun q => by rw [q] at e3; cases e3; simp at e4), e3, e4⟩
  have O : G.Ok := ⟨OT, fun x hx => free_of T (List.all_eq_true.mp hfree x hx)⟩
  have LB : LamB G theL.cm theL.tab := by
    refine ⟨(ghost_code hT).1, ?_⟩
    obtain ⟨bm, ob, h1, h2, h3, h4, h5, h6⟩ := T.bmain
    exact ⟨bm, ob, h1, h2, gg h3 (fun q => by rw [q] at h6; cases h6), h4, h5, h6⟩
  have hc : MonC G := fun a o pm code doc h1 h2 h3 => by
    have e1 : f = a := by have := y1.symm.trans h1; cases this; rfl
    subst e1
    have e2 := y2.symm.trans (base _ _ h2)
    cases e2
    have e3 := y3.symm.trans h3
    cases e3
    exact y4
  have PA : PairsAt G := ⟨pv, y8, y9.quiet fun b o hq e => gg e (fun q => by
    rw [q] at hq
    obtain ⟨vs, n, z | z⟩ := hq <;> cases z)⟩
  have h0 : G.h0.get? theL.tab = none := hideAll_none _ (by decide)
  have ht : s.heap.get? theL.tab = some (tabObj #[]) := (hT (343, 341) (.head _)).2
  have wl' : ∃ vs : List Value, s.heap.get? l = some (lobj vs.toArray 0) ∧ Rds (fun _ => False) s.heap vs (xs.map .int) := by
    generalize hd : ofPy (.list (xs.map .int)) = d at wl
    cases wl with
    | list hg hw =>
      rename_i vs ds
      have : ds = ofPys (xs.map .int) := by cases hd; rfl
      subst this
      exact ⟨vs, hg, wellInts hw⟩
    | _ => cases hd
  obtain ⟨vs, hl, hv⟩ := wl'
  exact law_core (G := G) O (fun d hd => hd) LB hc PA PE h0 rfl ⟨by decide, by decide⟩ base ht ho hdt hcr hl (by simpa using hv) hxs kk
end Pf

namespace Pf
open PySem PySem.Calls PyProof.Rows PySem.W

/- ---- reckon a value at once, then go on ---- -/
noncomputable def fN {R : Type} (n : Nat) (k : Nat → R) : R := @Nat.rec (fun _ => R) (k 0) (fun m _ => k (Nat.succ m)) n
theorem fN_eq {R : Type} (n : Nat) (k : Nat → R) : fN n k = k n := by cases n <;> rfl
noncomputable def fI {R : Type} (i : Int) (k : Int → R) : R := @Int.rec (fun _ => R) (fun n => fN n fun n => k (Int.ofNat n)) (fun n => fN n fun n => k (Int.negSucc n)) i
theorem fI_eq {R : Type} (i : Int) (k : Int → R) : fI i k = k i := by
  cases i with
  | ofNat n => exact fN_eq n fun n => k (Int.ofNat n)
  | negSucc n => exact fN_eq n fun n => k (Int.negSucc n)
noncomputable def fD {R : Type} (d : D) : (D → R) → R := @PyData.rec (fun _ => (D → R) → R) (fun _ => (List D → R) → R) (fun _ => Unit) (fun _ => Unit)
  (fun k => k .none) (fun b k => @Bool.rec (fun _ => R) (k (.bool false)) (k (.bool true)) b) (fun i k => fI i fun i => k (.int i)) (fun s k => k (.str s))
  (fun _ ih k => ih fun xs => k (.list xs)) (fun _ ih k => ih fun xs => k (.tuple xs)) (fun kvs _ k => k (.dict kvs))
  (fun k => k []) (fun _ _ iha ihr k => iha fun a => ihr fun r => k (a :: r)) () (fun _ _ _ _ => ()) (fun _ _ _ _ => ()) d
noncomputable def fL {R : Type} (l : List D) : (List D → R) → R := @List.rec D (fun _ => (List D → R) → R) (fun k => k []) (fun a _ ih k => fD a fun a => ih fun r => k (a :: r)) l
theorem fD_eq {R : Type} (d : D) : ∀ k : D → R, fD d k = k d := by
  refine @PyData.rec (fun d => ∀ k : D → R, fD d k = k d) (fun l => ∀ k : List D → R, @PyData.rec_1 (fun _ => (D → R) → R) (fun _ => (List D → R) → R) (fun _ => Unit) (fun _ => Unit)
    (fun k => k .none) (fun b k => @Bool.rec (fun _ => R) (k (.bool false)) (k (.bool true)) b) (fun i k => fI i fun i => k (.int i)) (fun s k => k (.str s))
    (fun _ ih k => ih fun xs => k (.list xs)) (fun _ ih k => ih fun xs => k (.tuple xs)) (fun kvs _ k => k (.dict kvs))
    (fun k => k []) (fun _ _ iha ihr k => iha fun a => ihr fun r => k (a :: r)) () (fun _ _ _ _ => ()) (fun _ _ _ _ => ()) l k = k l) (fun _ => True) (fun _ => True) ?_ ?_ ?_ ?_ ?_ ?_ ?_ ?_ ?_ trivial (fun _ _ _ _ => trivial) (fun _ _ _ _ => trivial) d
  · intro k; rfl
  · intro b k; cases b <;> rfl
  · intro i k; exact fI_eq i fun i => k (.int i)
  · intro s k; rfl
  · intro xs ih k; exact ih fun xs => k (.list xs)
  · intro xs ih k; exact ih fun xs => k (.tuple xs)
  · intro kvs _ k; rfl
  · intro k; rfl
  · intro a r iha ihr k
    refine (iha fun a => _).trans ?_
    exact ihr fun r => k (a :: r)
theorem fL_eq {R : Type} : ∀ (l : List D) (k : List D → R), fL l k = k l
  | [], _ => rfl
  | a :: r, k => by
    refine (fD_eq a fun a => fL r fun r => k (a :: r)).trans ?_
    exact fL_eq r fun r => k (a :: r)

/- ---- by the kind of a value ---- -/
noncomputable def kInt {R : Type} (d : D) (z : R) (k : Int → R) : R := @PyData.rec (fun _ => R) (fun _ => Unit) (fun _ => Unit) (fun _ => Unit) z (fun _ => z) k (fun _ => z) (fun _ _ => z) (fun _ _ => z) (fun _ _ => z) () (fun _ _ _ _ => ()) () (fun _ _ _ _ => ()) (fun _ _ _ _ => ()) d
noncomputable def kLst {R : Type} (d : D) (z : R) (k : List D → R) : R := @PyData.rec (fun _ => R) (fun _ => Unit) (fun _ => Unit) (fun _ => Unit) z (fun _ => z) (fun _ => z) (fun _ => z) (fun l _ => k l) (fun _ _ => z) (fun _ _ => z) () (fun _ _ _ _ => ()) () (fun _ _ _ _ => ()) (fun _ _ _ _ => ()) d
noncomputable def kTup {R : Type} (d : D) (z : R) (k : List D → R) : R := @PyData.rec (fun _ => R) (fun _ => Unit) (fun _ => Unit) (fun _ => Unit) z (fun _ => z) (fun _ => z) (fun _ => z) (fun _ _ => z) (fun l _ => k l) (fun _ _ => z) () (fun _ _ _ _ => ()) () (fun _ _ _ _ => ()) (fun _ _ _ _ => ()) d
noncomputable def kSeq {R : Type} (d : D) (z : R) (k : List D → R) : R := @PyData.rec (fun _ => R) (fun _ => Unit) (fun _ => Unit) (fun _ => Unit) z (fun _ => z) (fun _ => z) (fun _ => z) (fun l _ => k l) (fun l _ => k l) (fun _ _ => z) () (fun _ _ _ _ => ()) () (fun _ _ _ _ => ()) (fun _ _ _ _ => ()) d
noncomputable def kOpt {α R : Type} (o : Option α) (k : α → Option R) : Option R := @Option.rec α (fun _ => Option R) none k o
noncomputable def kNat {R : Type} (i : Int) (z : R) (k : Nat → R) : R := @Int.rec (fun _ => R) k (fun _ => z) i

/- ---- lists ---- -/
noncomputable def lenR {α : Type} (l : List α) : Nat := @List.rec α (fun _ => Nat) 0 (fun _ _ n => Nat.succ n) l
theorem lenR_eq {α : Type} : ∀ (l : List α), lenR l = l.length
  | [] => rfl
  | _ :: r => congrArg Nat.succ (lenR_eq r)
noncomputable def shR (l : List D) : Bool := Nat.ble (lenR l) 4096
theorem shR_eq (l : List D) : shR l = short l := congrArg (fun n => Nat.ble n 4096) (lenR_eq l)
noncomputable def lkR {α : Type} (l : List α) : Nat → Option α := @List.rec α (fun _ => Nat → Option α) (fun _ => none) (fun a _ ih i => @Nat.rec (fun _ => Option α) (some a) (fun j _ => ih j) i) l
theorem lkR_eq {α : Type} : ∀ (l : List α) (i : Nat), lkR l i = l[i]?
  | [], _ => rfl
  | _ :: _, 0 => rfl
  | _ :: r, i + 1 => (lkR_eq r i).trans (List.getElem?_cons_succ).symm
/-- the list with another item at a place, reckoned at once -/
noncomputable def stK {α R : Type} (v : α) (l : List α) : Nat → (List α → R) → R := @List.rec α (fun _ => Nat → (List α → R) → R) (fun _ k => k []) (fun a r ih i k => @Nat.rec (fun _ => R) (k (v :: r)) (fun j _ => ih j fun r => k (a :: r)) i) l
theorem stK_eq {α R : Type} (v : α) : ∀ (l : List α) (i : Nat) (k : List α → R), stK v l i k = k (l.set i v)
  | [], _, _ => rfl
  | _ :: _, 0, _ => rfl
  | a :: r, i + 1, k => stK_eq v r i fun r => k (a :: r)
/-- one item more at the end -/
noncomputable def snK {α R : Type} (v : α) (l : List α) : (List α → R) → R := @List.rec α (fun _ => (List α → R) → R) (fun k => k [v]) (fun a _ ih k => ih fun r => k (a :: r)) l
theorem snK_eq {α R : Type} (v : α) : ∀ (l : List α) (k : List α → R), snK v l k = k (l ++ [v])
  | [], _ => rfl
  | a :: r, k => snK_eq v r fun r => k (a :: r)
noncomputable def apK {α R : Type} (v : List α) (l : List α) : (List α → R) → R := @List.rec α (fun _ => (List α → R) → R) (fun k => k v) (fun a _ ih k => ih fun r => k (a :: r)) l
theorem apK_eq {α R : Type} (v : List α) : ∀ (l : List α) (k : List α → R), apK v l k = k (l ++ v)
  | [], _ => rfl
  | a :: r, k => apK_eq v r fun r => k (a :: r)
noncomputable def revR {α : Type} (l : List α) : List α → List α := @List.rec α (fun _ => List α → List α) (fun acc => acc) (fun a _ ih acc => ih (a :: acc)) l
theorem revR_eq {α : Type} : ∀ (l acc : List α), revR l acc = l.reverse ++ acc
  | [], _ => rfl
  | a :: r, acc => by
    show revR r (a :: acc) = _
    rw [revR_eq r]; simp

/- ---- the places of a frame ---- -/
abbrev Pt (R : Type) := Slot → St → (St → R) → R
noncomputable def IsP {R : Type} (p : Pt R) (i : Nat) : Prop := ∀ v σ k, p v σ k = k (σ.set i v)
noncomputable def IsL (l : St → Slot) (i : Nat) : Prop := ∀ σ, l σ = (σ[i]?).getD .un
noncomputable def hdX (σ : St) : Slot := @List.rec Slot (fun _ => Slot) .un (fun a _ _ => a) σ
noncomputable def tlX (σ : St) : St := @List.rec Slot (fun _ => St) [] (fun _ r _ => r) σ
theorem IsL.z : IsL hdX 0 := fun σ => by cases σ <;> rfl
theorem IsL.s {l : St → Slot} {i : Nat} (h : IsL l i) : IsL (fun σ => l (tlX σ)) (i + 1) := fun σ => by
  cases σ with
  | nil => exact h []
  | cons a r => exact h r
noncomputable def pZ {R : Type} : Pt R := fun v σ k => @List.rec Slot (fun _ => R) (k []) (fun _ r _ => k (v :: r)) σ
noncomputable def pS {R : Type} (p : Pt R) : Pt R := fun v σ k => @List.rec Slot (fun _ => R) (k []) (fun a r _ => p v r fun r => k (a :: r)) σ
theorem IsP.z {R : Type} : IsP (R := R) pZ 0 := fun v σ k => by cases σ <;> rfl
theorem IsP.s {R : Type} {p : Pt R} {i : Nat} (h : IsP p i) : IsP (pS p) (i + 1) := fun v σ k => by
  cases σ with
  | nil => rfl
  | cons a r => exact h v r fun r => k (a :: r)
noncomputable def sVal (s : Slot) : Option D := @Slot.rec (fun _ => Option D) none (fun d => some d) (fun _ => none) s
noncomputable def sBor (s : Slot) : Option D := @Slot.rec (fun _ => Option D) none (fun d => some d) (fun ds => some (.list ds)) s
theorem sVal_eq {l : St → Slot} {i : Nat} (h : IsL l i) : (fun σ => sVal (l σ)) = eVar i := by
  funext σ
  show sVal (l σ) = eVar i σ
  rw [h σ]
  unfold eVar
  cases σ[i]? with
  | none => rfl
  | some s => cases s <;> rfl
theorem sBor_eq {l : St → Slot} {i : Nat} (h : IsL l i) : (fun σ => sBor (l σ)) = eVarB i := by
  funext σ
  show sBor (l σ) = eVarB i σ
  rw [h σ]
  unfold eVarB
  cases σ[i]? with
  | none => rfl
  | some s => cases s <;> rfl
noncomputable def lX0 (σ : St) : Slot := hdX σ
noncomputable def vX0 : Fe := fun σ => sVal (hdX σ)
noncomputable def bX0 : Fe := fun σ => sBor (hdX σ)
noncomputable def pX0 {R : Type} : Pt R := pZ
noncomputable def lX1 (σ : St) : Slot := hdX (tlX σ)
noncomputable def vX1 : Fe := fun σ => sVal (hdX (tlX σ))
noncomputable def bX1 : Fe := fun σ => sBor (hdX (tlX σ))
noncomputable def pX1 {R : Type} : Pt R := fun v σ k => @List.rec Slot (fun _ => R) (k []) (fun a r _ => pX0 v r fun r => k (a :: r)) σ
noncomputable def lX2 (σ : St) : Slot := hdX (tlX (tlX σ))
noncomputable def vX2 : Fe := fun σ => sVal (hdX (tlX (tlX σ)))
noncomputable def bX2 : Fe := fun σ => sBor (hdX (tlX (tlX σ)))
noncomputable def pX2 {R : Type} : Pt R := fun v σ k => @List.rec Slot (fun _ => R) (k []) (fun a r _ => pX1 v r fun r => k (a :: r)) σ
noncomputable def lX3 (σ : St) : Slot := hdX (tlX (tlX (tlX σ)))
noncomputable def vX3 : Fe := fun σ => sVal (hdX (tlX (tlX (tlX σ))))
noncomputable def bX3 : Fe := fun σ => sBor (hdX (tlX (tlX (tlX σ))))
noncomputable def pX3 {R : Type} : Pt R := fun v σ k => @List.rec Slot (fun _ => R) (k []) (fun a r _ => pX2 v r fun r => k (a :: r)) σ
noncomputable def lX4 (σ : St) : Slot := hdX (tlX (tlX (tlX (tlX σ))))
noncomputable def vX4 : Fe := fun σ => sVal (hdX (tlX (tlX (tlX (tlX σ)))))
noncomputable def bX4 : Fe := fun σ => sBor (hdX (tlX (tlX (tlX (tlX σ)))))
noncomputable def pX4 {R : Type} : Pt R := fun v σ k => @List.rec Slot (fun _ => R) (k []) (fun a r _ => pX3 v r fun r => k (a :: r)) σ
noncomputable def lX5 (σ : St) : Slot := hdX (tlX (tlX (tlX (tlX (tlX σ)))))
noncomputable def vX5 : Fe := fun σ => sVal (hdX (tlX (tlX (tlX (tlX (tlX σ))))))
noncomputable def bX5 : Fe := fun σ => sBor (hdX (tlX (tlX (tlX (tlX (tlX σ))))))
noncomputable def pX5 {R : Type} : Pt R := fun v σ k => @List.rec Slot (fun _ => R) (k []) (fun a r _ => pX4 v r fun r => k (a :: r)) σ
noncomputable def lX6 (σ : St) : Slot := hdX (tlX (tlX (tlX (tlX (tlX (tlX σ))))))
noncomputable def vX6 : Fe := fun σ => sVal (hdX (tlX (tlX (tlX (tlX (tlX (tlX σ)))))))
noncomputable def bX6 : Fe := fun σ => sBor (hdX (tlX (tlX (tlX (tlX (tlX (tlX σ)))))))
noncomputable def pX6 {R : Type} : Pt R := fun v σ k => @List.rec Slot (fun _ => R) (k []) (fun a r _ => pX5 v r fun r => k (a :: r)) σ
noncomputable def lX7 (σ : St) : Slot := hdX (tlX (tlX (tlX (tlX (tlX (tlX (tlX σ)))))))
noncomputable def vX7 : Fe := fun σ => sVal (hdX (tlX (tlX (tlX (tlX (tlX (tlX (tlX σ))))))))
noncomputable def bX7 : Fe := fun σ => sBor (hdX (tlX (tlX (tlX (tlX (tlX (tlX (tlX σ))))))))
noncomputable def pX7 {R : Type} : Pt R := fun v σ k => @List.rec Slot (fun _ => R) (k []) (fun a r _ => pX6 v r fun r => k (a :: r)) σ
noncomputable def lX8 (σ : St) : Slot := hdX (tlX (tlX (tlX (tlX (tlX (tlX (tlX (tlX σ))))))))
noncomputable def vX8 : Fe := fun σ => sVal (hdX (tlX (tlX (tlX (tlX (tlX (tlX (tlX (tlX σ)))))))))
noncomputable def bX8 : Fe := fun σ => sBor (hdX (tlX (tlX (tlX (tlX (tlX (tlX (tlX (tlX σ)))))))))
noncomputable def pX8 {R : Type} : Pt R := fun v σ k => @List.rec Slot (fun _ => R) (k []) (fun a r _ => pX7 v r fun r => k (a :: r)) σ
noncomputable def lX9 (σ : St) : Slot := hdX (tlX (tlX (tlX (tlX (tlX (tlX (tlX (tlX (tlX σ)))))))))
noncomputable def vX9 : Fe := fun σ => sVal (hdX (tlX (tlX (tlX (tlX (tlX (tlX (tlX (tlX (tlX σ))))))))))
noncomputable def bX9 : Fe := fun σ => sBor (hdX (tlX (tlX (tlX (tlX (tlX (tlX (tlX (tlX (tlX σ))))))))))
noncomputable def pX9 {R : Type} : Pt R := fun v σ k => @List.rec Slot (fun _ => R) (k []) (fun a r _ => pX8 v r fun r => k (a :: r)) σ
noncomputable def lX10 (σ : St) : Slot := hdX (tlX (tlX (tlX (tlX (tlX (tlX (tlX (tlX (tlX (tlX σ))))))))))
noncomputable def vX10 : Fe := fun σ => sVal (hdX (tlX (tlX (tlX (tlX (tlX (tlX (tlX (tlX (tlX (tlX σ)))))))))))
noncomputable def bX10 : Fe := fun σ => sBor (hdX (tlX (tlX (tlX (tlX (tlX (tlX (tlX (tlX (tlX (tlX σ)))))))))))
noncomputable def pX10 {R : Type} : Pt R := fun v σ k => @List.rec Slot (fun _ => R) (k []) (fun a r _ => pX9 v r fun r => k (a :: r)) σ
noncomputable def lX11 (σ : St) : Slot := hdX (tlX (tlX (tlX (tlX (tlX (tlX (tlX (tlX (tlX (tlX (tlX σ)))))))))))
noncomputable def vX11 : Fe := fun σ => sVal (hdX (tlX (tlX (tlX (tlX (tlX (tlX (tlX (tlX (tlX (tlX (tlX σ))))))))))))
noncomputable def bX11 : Fe := fun σ => sBor (hdX (tlX (tlX (tlX (tlX (tlX (tlX (tlX (tlX (tlX (tlX (tlX σ))))))))))))
noncomputable def pX11 {R : Type} : Pt R := fun v σ k => @List.rec Slot (fun _ => R) (k []) (fun a r _ => pX10 v r fun r => k (a :: r)) σ
noncomputable def lX12 (σ : St) : Slot := hdX (tlX (tlX (tlX (tlX (tlX (tlX (tlX (tlX (tlX (tlX (tlX (tlX σ))))))))))))
noncomputable def vX12 : Fe := fun σ => sVal (hdX (tlX (tlX (tlX (tlX (tlX (tlX (tlX (tlX (tlX (tlX (tlX (tlX σ)))))))))))))
noncomputable def bX12 : Fe := fun σ => sBor (hdX (tlX (tlX (tlX (tlX (tlX (tlX (tlX (tlX (tlX (tlX (tlX (tlX σ)))))))))))))
noncomputable def pX12 {R : Type} : Pt R := fun v σ k => @List.rec Slot (fun _ => R) (k []) (fun a r _ => pX11 v r fun r => k (a :: r)) σ
noncomputable def lX13 (σ : St) : Slot := hdX (tlX (tlX (tlX (tlX (tlX (tlX (tlX (tlX (tlX (tlX (tlX (tlX (tlX σ)))))))))))))
noncomputable def vX13 : Fe := fun σ => sVal (hdX (tlX (tlX (tlX (tlX (tlX (tlX (tlX (tlX (tlX (tlX (tlX (tlX (tlX σ))))))))))))))
noncomputable def bX13 : Fe := fun σ => sBor (hdX (tlX (tlX (tlX (tlX (tlX (tlX (tlX (tlX (tlX (tlX (tlX (tlX (tlX σ))))))))))))))
noncomputable def pX13 {R : Type} : Pt R := fun v σ k => @List.rec Slot (fun _ => R) (k []) (fun a r _ => pX12 v r fun r => k (a :: r)) σ
noncomputable def lX14 (σ : St) : Slot := hdX (tlX (tlX (tlX (tlX (tlX (tlX (tlX (tlX (tlX (tlX (tlX (tlX (tlX (tlX σ))))))))))))))
noncomputable def vX14 : Fe := fun σ => sVal (hdX (tlX (tlX (tlX (tlX (tlX (tlX (tlX (tlX (tlX (tlX (tlX (tlX (tlX (tlX σ)))))))))))))))
noncomputable def bX14 : Fe := fun σ => sBor (hdX (tlX (tlX (tlX (tlX (tlX (tlX (tlX (tlX (tlX (tlX (tlX (tlX (tlX (tlX σ)))))))))))))))
noncomputable def pX14 {R : Type} : Pt R := fun v σ k => @List.rec Slot (fun _ => R) (k []) (fun a r _ => pX13 v r fun r => k (a :: r)) σ
/- ---- ints ---- -/
noncomputable def zAdd (i j : Int) : Int := @Int.rec (fun _ => Int) (fun a => @Int.rec (fun _ => Int) (fun b => Int.ofNat (Nat.add a b)) (fun b => Int.add i j) j) (fun _ => Int.add i j) i
theorem zAdd_eq (i j : Int) : zAdd i j = i + j := by cases i <;> cases j <;> rfl
noncomputable def zSub (i j : Int) : Int := @Int.rec (fun _ => Int) (fun a => @Int.rec (fun _ => Int) (fun b => @Nat.rec (fun _ => Int) (Int.ofNat (Nat.sub a b)) (fun k _ => Int.negSucc k) (Nat.sub b a)) (fun b => Int.sub i j) j) (fun _ => Int.sub i j) i
theorem zSub_eq (i j : Int) : zSub i j = i - j := by
  cases i with
  | negSucc a => cases j <;> rfl
  | ofNat a =>
    cases j with
    | negSucc b => rfl
    | ofNat b =>
      show @Nat.rec (fun _ => Int) (Int.ofNat (a - b)) (fun k _ => Int.negSucc k) (b - a) = (a : Int) - (b : Int)
      cases e : b - a with
      | zero => show Int.ofNat (a - b) = _; rw [Int.ofNat_eq_natCast]; omega
      | succ k => show Int.negSucc k = _; omega
noncomputable def zMul (i j : Int) : Int := @Int.rec (fun _ => Int) (fun a => @Int.rec (fun _ => Int) (fun b => Int.ofNat (Nat.mul a b)) (fun b => Int.mul i j) j) (fun _ => Int.mul i j) i
theorem zMul_eq (i j : Int) : zMul i j = i * j := by cases i <;> cases j <;> rfl
noncomputable def zMod (i j : Int) : Int := @Int.rec (fun _ => Int) (fun a => @Int.rec (fun _ => Int) (fun b => Int.ofNat (Nat.mod a b)) (fun b => Int.fmod i j) j) (fun a => @Int.rec (fun _ => Int) (fun b => Int.subNatNat b (Nat.succ (Nat.mod a b))) (fun b => Int.fmod i j) j) i
theorem zMod_eq (i j : Int) : zMod i j = i.fmod j := by
  cases i with
  | ofNat a =>
    cases j with
    | ofNat b => cases a with
      | zero => show Int.ofNat (0 % b) = _; rw [Nat.zero_mod]; rfl
      | succ a => rfl
    | negSucc b => rfl
  | negSucc a => cases j <;> rfl
noncomputable def zEq (i j : Int) : Bool := @Int.rec (fun _ => Bool) (fun a => @Int.rec (fun _ => Bool) (fun b => Nat.beq a b) (fun _ => false) j) (fun a => @Int.rec (fun _ => Bool) (fun _ => false) (fun b => Nat.beq a b) j) i
theorem zEq_eq (i j : Int) : zEq i j = PySem.W.Z.eqB i j := by cases i <;> cases j <;> rfl
noncomputable def zLt (i j : Int) : Bool := @Int.rec (fun _ => Bool) (fun a => @Int.rec (fun _ => Bool) (fun b => Nat.blt a b) (fun _ => false) j) (fun a => @Int.rec (fun _ => Bool) (fun _ => true) (fun b => Nat.blt b a) j) i
theorem zLt_eq (i j : Int) : zLt i j = PySem.W.Z.ltB i j := by cases i <;> cases j <;> rfl
noncomputable def zLe (i j : Int) : Bool := @Int.rec (fun _ => Bool) (fun a => @Int.rec (fun _ => Bool) (fun b => Nat.ble a b) (fun _ => false) j) (fun a => @Int.rec (fun _ => Bool) (fun _ => true) (fun b => Nat.ble b a) j) i
theorem zLe_eq (i j : Int) : zLe i j = PySem.W.Z.leB i j := by cases i <;> cases j <;> rfl
noncomputable def zSm (i : Int) : Bool := @Int.rec (fun _ => Bool) (fun a => Nat.ble (Nat.succ a) 1152921504606846976) (fun _ => small i) i
theorem zSm_eq (i : Int) : zSm i = small i := by cases i <;> rfl
noncomputable def kBool {R : Type} (b : Bool) (t f : R) : R := @Bool.rec (fun _ => R) f t b

/- ---- expressions ---- -/
noncomputable def xC (d : D) : Fe := fun _ => some d
theorem xC_eq {d : D} : xC d = eC d := rfl
/-- two ints -/
noncomputable def x2I (f : Int → Int → Option D) (m1 m2 : Fe) : Fe := fun σ => @Option.rec D (fun _ => Option D) none (fun a => kInt a none fun i => @Option.rec D (fun _ => Option D) none (fun b => kInt b none fun j => f i j) (m2 σ)) (m1 σ)
theorem x2I_eq {f : Int → Int → Option D} {g : D → D → Option D} {m1 m2 : Fe} (h : ∀ i j, g (.int i) (.int j) = f i j) (h1 : ∀ a b, kInt a true (fun _ => false) = true → g a b = none) (h2 : ∀ a b, kInt b true (fun _ => false) = true → g a b = none) : x2I f m1 m2 = bind2 g m1 m2 := by
  funext σ
  unfold x2I bind2
  cases m1 σ with
  | none => rfl
  | some a =>
    cases e2 : m2 σ with
    | none => cases a <;> rfl
    | some b =>
      cases a <;> cases b <;> first | exact (h1 _ _ rfl).symm | exact (h2 _ _ rfl).symm | exact (h _ _).symm
noncomputable def xAdd (m1 m2 : Fe) : Fe := x2I (fun i j => some (.int (zAdd i j))) m1 m2
theorem xAdd_eq {m1 m2 : Fe} : xAdd m1 m2 = bind2 dAdd m1 m2 := x2I_eq (fun i j => congrArg (fun z => some (PyData.int z)) (zAdd_eq i j).symm) (fun a b h => by cases a <;> first | rfl | cases h) (fun a b h => by cases a <;> cases b <;> first | rfl | cases h)
noncomputable def xSub (m1 m2 : Fe) : Fe := x2I (fun i j => some (.int (zSub i j))) m1 m2
theorem xSub_eq {m1 m2 : Fe} : xSub m1 m2 = bind2 dSub m1 m2 := x2I_eq (fun i j => congrArg (fun z => some (PyData.int z)) (zSub_eq i j).symm) (fun a b h => by cases a <;> first | rfl | cases h) (fun a b h => by cases a <;> cases b <;> first | rfl | cases h)
noncomputable def xMul (m1 m2 : Fe) : Fe := x2I (fun i j => kBool (zSm i) (some (.int (zMul i j))) none) m1 m2
theorem xMul_eq {m1 m2 : Fe} : xMul m1 m2 = bind2 dMul m1 m2 := x2I_eq (fun i j => by rw [zSm_eq, zMul_eq]; show (match small i with | true => some (PyData.int (i * j)) | false => none) = _; cases small i <;> rfl) (fun a b h => by cases a <;> first | rfl | cases h) (fun a b h => by cases a <;> cases b <;> first | rfl | cases h)
noncomputable def xMod (m1 m2 : Fe) : Fe := x2I (fun i j => kBool (zEq j (.ofNat 0)) none (some (.int (zMod i j)))) m1 m2
theorem xMod_eq {m1 m2 : Fe} : xMod m1 m2 = bind2 dMod m1 m2 := x2I_eq (fun i j => by rw [zEq_eq, zMod_eq]; show (match PySem.W.Z.eqB j 0 with | true => none | false => some (PyData.int (i.fmod j))) = kBool (PySem.W.Z.eqB j 0) _ _; cases PySem.W.Z.eqB j 0 <;> rfl) (fun a b h => by cases a <;> first | rfl | cases h) (fun a b h => by cases a <;> cases b <;> first | rfl | cases h)
noncomputable def xDiv (m1 m2 : Fe) : Fe := x2I (fun i j => dDiv (.int i) (.int j)) m1 m2
theorem xDiv_eq {m1 m2 : Fe} : xDiv m1 m2 = bind2 dDiv m1 m2 := x2I_eq (fun i j => rfl) (fun a b h => by cases a <;> first | rfl | cases h) (fun a b h => by cases a <;> cases b <;> first | rfl | cases h)
noncomputable def x2 (f : D → D → Option D) (m1 m2 : Fe) : Fe := fun σ => @Option.rec D (fun _ => Option D) none (fun a => @Option.rec D (fun _ => Option D) none (fun b => f a b) (m2 σ)) (m1 σ)
theorem x2_eq {f : D → D → Option D} {m1 m2 : Fe} : x2 f m1 m2 = bind2 f m1 m2 := by
  funext σ
  unfold x2 bind2
  rcases m1 σ with _ | _
  · rfl
  · rcases m2 σ with _ | _ <;> rfl
noncomputable def x1 (f : D → Option D) (m : Fe) : Fe := fun σ => @Option.rec D (fun _ => Option D) none f (m σ)
theorem x1_eq {f : D → Option D} {m : Fe} : x1 f m = bind1 f m := by
  funext σ
  unfold x1 bind1
  rcases m σ with _ | _ <;> rfl
/-- a value reckoned at once -/
noncomputable def xF (m : Fe) : Fe := fun σ => @Option.rec D (fun _ => Option D) none (fun d => fD d some) (m σ)
theorem xF_eq {m : Fe} : xF m = m := by
  funext σ
  unfold xF
  cases m σ with
  | none => rfl
  | some d => exact fD_eq d some
noncomputable def xLF (m : Fl) : Fl := fun σ => @Option.rec (List D) (fun _ => Option (List D)) none (fun d => fL d some) (m σ)
theorem xLF_eq {m : Fl} : xLF m = m := by
  funext σ
  unfold xLF
  cases m σ with
  | none => rfl
  | some d => exact fL_eq d some
noncomputable def xNth (ds : List D) (i : Int) : Option D := @Int.rec (fun _ => Option D) (fun n => lkR ds n) (fun n => lkR (revR ds []) n) i
theorem xNth_eq (ds : List D) (i : Int) : xNth ds i = nth ds i := by
  cases i with
  | ofNat n => exact lkR_eq ds n
  | negSucc n => exact (lkR_eq _ n).trans (by rw [revR_eq, List.append_nil]; rfl)
noncomputable def xIdx (m1 m2 : Fe) : Fe := fun σ => @Option.rec D (fun _ => Option D) none (fun a => @Option.rec D (fun _ => Option D) none (fun b => kInt b none fun i => kBool (zSm i) (kSeq a none fun ds => xNth ds i) none) (m2 σ)) (m1 σ)
theorem xIdx_eq {m1 m2 : Fe} : xIdx m1 m2 = bind2 dIdx m1 m2 := by
  funext σ
  unfold xIdx bind2
  cases m1 σ with
  | none => rfl
  | some a =>
    cases m2 σ with
    | none => rfl
    | some b =>
      cases b with
      | int i =>
        show kBool (zSm i) (kSeq a none fun ds => xNth ds i) none = dIdx a (.int i)
        rw [zSm_eq]
        unfold dIdx
        dsimp only
        cases small i with
        | false => rfl
        | true => cases a <;> first | rfl | exact xNth_eq _ _
      | _ => rfl
noncomputable def xLN : Fl := fun _ => some []
theorem xLN_eq : xLN = lNil := rfl
noncomputable def xLC (m : Fe) (ms : Fl) : Fl := fun σ => @Option.rec D (fun _ => Option (List D)) none (fun d => @Option.rec (List D) (fun _ => Option (List D)) none (fun ds => some (d :: ds)) (ms σ)) (m σ)
theorem xLC_eq {m : Fe} {ms : Fl} : xLC m ms = lCons m ms := by
  funext σ
  unfold xLC lCons
  rcases m σ with _ | _
  · rfl
  · rcases ms σ with _ | _ <;> rfl
noncomputable def xTup (m : Fl) : Fe := fun σ => @Option.rec (List D) (fun _ => Option D) none (fun ds => kBool (Nat.ble (lenR ds) 64) (some (.tuple ds)) none) (m σ)
theorem ble_if {α : Type} (a b : Nat) (x y : α) : kBool (Nat.ble a b) x y = if a ≤ b then x else y := by
  by_cases h : a ≤ b
  · rw [if_pos h, Nat.ble_eq_true_of_le h]; rfl
  · rw [if_neg h]
    cases e : Nat.ble a b with
    | false => rfl
    | true => exact absurd (Nat.le_of_ble_eq_true e) h
theorem xTup_eq {m : Fl} : xTup m = eTup m := by
  funext σ
  unfold xTup eTup
  cases m σ with
  | none => rfl
  | some ds => exact (ble_if _ _ _ _).trans (by rw [lenR_eq])
noncomputable def xLst (m : Fl) : Fl := fun σ => @Option.rec (List D) (fun _ => Option (List D)) none (fun ds => kBool (Nat.ble (lenR ds) 64) (some ds) none) (m σ)
theorem xLst_eq {m : Fl} : xLst m = oLst m := by
  funext σ
  unfold xLst oLst
  cases m σ with
  | none => rfl
  | some ds => exact (ble_if _ _ _ _).trans (by rw [lenR_eq])
noncomputable def xO (m : Fl) : Fe := fun σ => @Option.rec (List D) (fun _ => Option D) none (fun ds => some (.list ds)) (m σ)
theorem xO_eq {m : Fl} : xO m = eO m := by
  funext σ
  unfold xO eO
  cases m σ <;> rfl
noncomputable def xIf (t : Ft) (m1 m2 : Fe) : Fe := fun σ => @Option.rec Bool (fun _ => Option D) none (fun b => kBool b (m1 σ) (m2 σ)) (t σ)
theorem xIf_eq {t : Ft} {m1 m2 : Fe} : xIf t m1 m2 = eIf t m1 m2 := by
  funext σ
  unfold xIf eIf
  rcases t σ with _ | _ | _ <;> rfl
noncomputable def xCat (m1 m2 : Fe) : Fl := fun σ => @Option.rec D (fun _ => Option (List D)) none (fun a => kLst a none fun a => @Option.rec D (fun _ => Option (List D)) none (fun b => kLst b none fun b => apK b a fun l => kBool (shR l) (some l) none) (m2 σ)) (m1 σ)
theorem xCat_eq {m1 m2 : Fe} : xCat m1 m2 = oCat m1 m2 := by
  funext σ
  unfold xCat oCat
  rcases m1 σ with _ | a
  · rfl
  · cases a with
    | list a =>
      rcases m2 σ with _ | b
      · rfl
      · cases b with
        | list b =>
          refine (apK_eq b a _).trans ?_
          show kBool (shR (a ++ b)) _ _ = (match short (a ++ b) with | true => some (a ++ b) | false => none)
          rw [shR_eq]
          cases short (a ++ b) <;> rfl
        | _ => rfl
    | _ => rfl
noncomputable def xRev (m : Fe) : Fl := fun σ => @Option.rec D (fun _ => Option (List D)) none (fun a => kLst a none fun a => kBool (shR a) (some (revR a [])) none) (m σ)
theorem xRev_eq {m : Fe} : xRev m = oRev m := by
  funext σ
  unfold xRev oRev
  rcases m σ with _ | a
  · rfl
  · cases a with
    | list a =>
      show kBool (shR a) (some (revR a [])) none = (match short a with | true => some a.reverse | false => none)
      rw [shR_eq, revR_eq, List.append_nil]
      cases short a <;> rfl
    | _ => rfl
noncomputable def xBL (F : List D → Option D) (m : Fl) : Fe := fun σ => @Option.rec (List D) (fun _ => Option D) none F (m σ)
theorem xBL_eq {F : List D → Option D} {m : Fl} : xBL F m = bindL F m := by
  funext σ
  unfold xBL bindL
  rcases m σ with _ | _ <;> rfl
noncomputable def xBO (F : List D → Option (List D)) (m : Fl) : Fl := fun σ => @Option.rec (List D) (fun _ => Option (List D)) none F (m σ)
theorem xBO_eq {F : List D → Option (List D)} {m : Fl} : xBO F m = bindLO F m := by
  funext σ
  unfold xBO bindLO
  rcases m σ with _ | _ <;> rfl
noncomputable def xIL (m : Fe) : Fl := fun σ => @Option.rec D (fun _ => Option (List D)) none (fun a => kLst a none some) (m σ)
theorem xIL_eq {m : Fe} : xIL m = iList m := by
  funext σ
  unfold xIL iList
  rcases m σ with _ | a
  · rfl
  · cases a <;> rfl
noncomputable def xLen (m : Fe) : Fe := fun σ => @Option.rec D (fun _ => Option D) none (fun a => kLst a none fun l => fN (lenR l) fun n => kBool (Nat.ble n 4096) (some (.int (.ofNat n))) none) (m σ)
theorem xLen_eq {m : Fe} : xLen m = bindL fLen (lCons m lNil) := by
  funext σ
  unfold xLen bindL lCons lNil
  rcases m σ with _ | a
  · rfl
  · cases a with
    | list l =>
      show (fN (lenR l) fun n => kBool (Nat.ble n 4096) (some (PyData.int (.ofNat n))) none) = (match Nat.ble l.length 4096 with | true => some (PyData.int l.length) | false => none)
      rw [fN_eq]
      show kBool (Nat.ble (lenR l) 4096) (some (PyData.int (.ofNat (lenR l)))) none = (match Nat.ble l.length 4096 with | true => some (PyData.int l.length) | false => none)
      rw [lenR_eq]
      cases Nat.ble l.length 4096 <;> rfl
    | _ => rfl
noncomputable def xMax (m1 m2 : Fe) : Fe := x2I (fun i j => kBool (zLt i j) (some (.int j)) (some (.int i))) m1 m2
theorem xMax_eq {m1 m2 : Fe} : xMax m1 m2 = bindL fMax (lCons m1 (lCons m2 lNil)) := by
  funext σ
  unfold xMax x2I bindL lCons lNil
  rcases m1 σ with _ | a
  · rfl
  · rcases m2 σ with _ | b
    · cases a <;> rfl
    · cases a <;> cases b <;> try rfl
      rename_i i j
      show kBool (zLt i j) _ _ = (match PySem.W.Z.ltB i j with | true => some (PyData.int j) | false => some (PyData.int i))
      rw [zLt_eq]
      cases PySem.W.Z.ltB i j <;> rfl

/- ---- tests ---- -/
noncomputable def trX (d : D) : Option Bool := @PyData.rec (fun _ => Option Bool) (fun _ => Unit) (fun _ => Unit) (fun _ => Unit) (some false) (fun b => some b) (fun i => some (kBool (zEq i (.ofNat 0)) false true)) (fun _ => none) (fun _ _ => none) (fun _ _ => none) (fun _ _ => none) () (fun _ _ _ _ => ()) () (fun _ _ _ _ => ()) (fun _ _ _ _ => ()) d
theorem trX_eq (d : D) : trX d = dTruth d := by
  cases d with
  | int i =>
    show some (kBool (zEq i (.ofNat 0)) false true) = some (!PySem.W.Z.eqB i 0)
    rw [zEq_eq]
    show some (kBool (PySem.W.Z.eqB i 0) false true) = _
    cases PySem.W.Z.eqB i 0 <;> rfl
  | _ => rfl
noncomputable def xT (m : Fe) : Ft := fun σ => @Option.rec D (fun _ => Option Bool) none trX (m σ)
theorem xT_eq {m : Fe} : xT m = tOf m := by
  funext σ
  unfold xT tOf
  rcases m σ with _ | d
  · rfl
  · exact trX_eq d
noncomputable def x2T (f : Int → Int → Bool) (m1 m2 : Fe) : Ft := fun σ => @Option.rec D (fun _ => Option Bool) none (fun a => kInt a none fun i => @Option.rec D (fun _ => Option Bool) none (fun b => kInt b none fun j => some (f i j)) (m2 σ)) (m1 σ)
theorem x2T_eq {f : Int → Int → Bool} {g : D → D → Option D} {m1 m2 : Fe} (h : ∀ i j, g (.int i) (.int j) = some (.bool (f i j))) (h1 : ∀ a b, kInt a true (fun _ => false) = true → g a b = none) (h2 : ∀ a b, kInt b true (fun _ => false) = true → g a b = none) : x2T f m1 m2 = tOf (bind2 g m1 m2) := by
  funext σ
  unfold x2T tOf bind2
  cases m1 σ with
  | none => rfl
  | some a =>
    cases e2 : m2 σ with
    | none => cases a <;> rfl
    | some b =>
      show _ = (match g a b with | some d => dTruth d | none => none)
      cases a <;> cases b <;> first | (rw [h1 _ _ rfl]; rfl) | (rw [h2 _ _ rfl]; rfl) | (rw [h]; rfl)
noncomputable def xLt (m1 m2 : Fe) : Ft := x2T zLt m1 m2
theorem xLt_eq {m1 m2 : Fe} : xLt m1 m2 = tOf (bind2 dLt m1 m2) := x2T_eq (fun i j => by rw [zLt_eq]; rfl) (fun a b h => by cases a <;> first | rfl | cases h) (fun a b h => by cases a <;> cases b <;> first | rfl | cases h)
noncomputable def xLe (m1 m2 : Fe) : Ft := x2T zLe m1 m2
theorem xLe_eq {m1 m2 : Fe} : xLe m1 m2 = tOf (bind2 dLe m1 m2) := x2T_eq (fun i j => by rw [zLe_eq]; rfl) (fun a b h => by cases a <;> first | rfl | cases h) (fun a b h => by cases a <;> cases b <;> first | rfl | cases h)
noncomputable def xGt (m1 m2 : Fe) : Ft := x2T (fun i j => zLt j i) m1 m2
theorem xGt_eq {m1 m2 : Fe} : xGt m1 m2 = tOf (bind2 dGt m1 m2) := x2T_eq (fun i j => by rw [zLt_eq]; rfl) (fun a b h => by cases a <;> first | rfl | cases h) (fun a b h => by cases a <;> cases b <;> first | rfl | cases h)
noncomputable def xGe (m1 m2 : Fe) : Ft := x2T (fun i j => zLe j i) m1 m2
theorem xGe_eq {m1 m2 : Fe} : xGe m1 m2 = tOf (bind2 dGe m1 m2) := x2T_eq (fun i j => by rw [zLe_eq]; rfl) (fun a b h => by cases a <;> first | rfl | cases h) (fun a b h => by cases a <;> cases b <;> first | rfl | cases h)
noncomputable def xEqD (a b : D) : Option Bool := kInt a (@Option.rec D (fun _ => Option Bool) none trX (dEq a b)) fun i => kInt b (@Option.rec D (fun _ => Option Bool) none trX (dEq a b)) fun j => some (zEq i j)
theorem xEqD_eq (a b : D) : xEqD a b = (match dEq a b with | some d => dTruth d | none => none) := by
  have e : @Option.rec D (fun _ => Option Bool) none trX (dEq a b) = (match dEq a b with | some d => dTruth d | none => none) := by
    rcases dEq a b with _ | d
    · rfl
    · exact trX_eq d
  cases a <;> cases b <;> first | exact e | (show some (zEq _ _) = _; rw [zEq_eq]; rfl)
noncomputable def xEq (m1 m2 : Fe) : Ft := fun σ => @Option.rec D (fun _ => Option Bool) none (fun a => @Option.rec D (fun _ => Option Bool) none (fun b => xEqD a b) (m2 σ)) (m1 σ)
theorem xEq_eq {m1 m2 : Fe} : xEq m1 m2 = tOf (bind2 dEq m1 m2) := by
  funext σ
  unfold xEq tOf bind2
  rcases m1 σ with _ | a
  · rfl
  · rcases m2 σ with _ | b
    · rfl
    · exact xEqD_eq a b
noncomputable def xNeD (a b : D) : Option Bool := kInt a (@Option.rec D (fun _ => Option Bool) none trX (dNe a b)) fun i => kInt b (@Option.rec D (fun _ => Option Bool) none trX (dNe a b)) fun j => some (kBool (zEq i j) false true)
theorem xNeD_eq (a b : D) : xNeD a b = (match dNe a b with | some d => dTruth d | none => none) := by
  have e : @Option.rec D (fun _ => Option Bool) none trX (dNe a b) = (match dNe a b with | some d => dTruth d | none => none) := by
    rcases dNe a b with _ | d
    · rfl
    · exact trX_eq d
  cases a <;> cases b <;> first | exact e | (rename_i i j; show some (kBool (zEq i j) false true) = some (!PySem.W.Z.eqB i j); rw [zEq_eq]; cases PySem.W.Z.eqB i j <;> rfl)
noncomputable def xNe (m1 m2 : Fe) : Ft := fun σ => @Option.rec D (fun _ => Option Bool) none (fun a => @Option.rec D (fun _ => Option Bool) none (fun b => xNeD a b) (m2 σ)) (m1 σ)
theorem xNe_eq {m1 m2 : Fe} : xNe m1 m2 = tOf (bind2 dNe m1 m2) := by
  funext σ
  unfold xNe tOf bind2
  rcases m1 σ with _ | a
  · rfl
  · rcases m2 σ with _ | b
    · rfl
    · exact xNeD_eq a b

/- ---- statements ---- -/
abbrev Fr := Option (St × Option D)
noncomputable def kFr (r : Fr) (k : St → Option D → Fr) : Fr := @Option.rec (St × Option D) (fun _ => Fr) none (fun q => @Prod.rec St (Option D) (fun _ => Fr) k q) r
noncomputable def xSN : Fs := fun σ => some (σ, none)
theorem xSN_eq : xSN = sNil := rfl
noncomputable def xSeq (m1 m2 : Fs) : Fs := fun σ => @Option.rec (St × Option D) (fun _ => Fr) none (fun q => @Prod.rec St (Option D) (fun _ => Fr) (fun σ' r => @Option.rec D (fun _ => Fr) (m2 σ') (fun d => some (σ', some d)) r) q) (m1 σ)
theorem xSeq_eq {m1 m2 : Fs} : xSeq m1 m2 = sSeq m1 m2 := by
  funext σ
  unfold xSeq sSeq
  rcases m1 σ with _ | ⟨_, _ | _⟩ <;> rfl
noncomputable def xRet (m : Fe) : Fs := fun σ => @Option.rec D (fun _ => Fr) none (fun d => some (σ, some d)) (m σ)
theorem xRet_eq {m : Fe} : xRet m = sRet m := by
  funext σ
  unfold xRet sRet
  rcases m σ with _ | _ <;> rfl
noncomputable def xSI (t : Ft) (m1 m2 : Fs) : Fs := fun σ => @Option.rec Bool (fun _ => Fr) none (fun b => kBool b (m1 σ) (m2 σ)) (t σ)
theorem xSI_eq {t : Ft} {m1 m2 : Fs} : xSI t m1 m2 = sIf t m1 m2 := by
  funext σ
  unfold xSI sIf
  rcases t σ with _ | _ | _ <;> rfl
noncomputable def xAsg (m : Fe) (g : St → D → Option St) : Fs := fun σ => @Option.rec D (fun _ => Fr) none (fun d => @Option.rec St (fun _ => Fr) none (fun σ' => some (σ', none)) (g σ d)) (m σ)
theorem xAsg_eq {m : Fe} {g g' : St → D → Option St} (h : g = g') : xAsg m g = sAsg m g' := by
  subst h
  funext σ
  unfold xAsg sAsg
  rcases m σ with _ | d
  · rfl
  · dsimp only
    rcases g σ d with _ | _ <;> rfl
noncomputable def xG (p : Pt (Option St)) : St → D → Option St := fun σ d => p (.val d) σ some
theorem xG_eq {p : Pt (Option St)} {i : Nat} (h : IsP p i) : xG p = gName i := by funext σ d; exact h _ _ _
noncomputable def pxD (ps : List (Pt (Option St))) : List D → St → Option St := @List.rec (Pt (Option St)) (fun _ => List D → St → Option St) (fun _ σ => some σ) (fun p _ ih ds σ => @List.rec D (fun _ => Option St) (some σ) (fun d r _ => p (.val d) σ fun σ => ih r σ) ds) ps
inductive IsPs {R : Type} : List (Pt R) → List Nat → Prop
  | nil : IsPs [] []
  | cons {p ps i is} : IsP p i → IsPs ps is → IsPs (p :: ps) (i :: is)
theorem IsPs.len {R : Type} {ps : List (Pt R)} {is : List Nat} (h : IsPs ps is) : ps.length = is.length := by
  induction h with
  | nil => rfl
  | cons _ _ ih => exact congrArg Nat.succ ih
theorem pxD_eq {ps : List (Pt (Option St))} {is : List Nat} (h : IsPs ps is) : ∀ (ds : List D) (σ : St), pxD ps ds σ = some (putAll σ (is.zip (ds.map Rv.v))) := by
  induction h with
  | nil => intro ds σ; rfl
  | cons h _ ih =>
    intro ds σ
    cases ds with
    | nil => rfl
    | cons d r => exact (h _ _ _).trans (ih r _)
noncomputable def xGT (ps : List (Pt (Option St))) : St → D → Option St := fun σ d => kTup d none fun ds => kBool (Nat.beq (lenR ds) (lenR ps)) (pxD ps ds σ) none
theorem xGT_eq {ps : List (Pt (Option St))} {is : List Nat} (h : IsPs ps is) : xGT ps = gTup is := by
  funext σ d
  unfold xGT gTup
  cases d with
  | tuple ds =>
    show kBool (Nat.beq (lenR ds) (lenR ps)) (pxD ps ds σ) none = (match Nat.beq ds.length is.length with | true => some (putAll σ (is.zip (ds.map Rv.v))) | false => none)
    rw [lenR_eq, lenR_eq, h.len, pxD_eq h]
    cases Nat.beq ds.length is.length <;> rfl
  | _ => rfl
noncomputable def xAO (m : Fl) (p : Pt Fr) : Fs := fun σ => @Option.rec (List D) (fun _ => Fr) none (fun ds => p (.own ds) σ fun σ => some (σ, none)) (m σ)
theorem xAO_eq {m : Fl} {p : Pt Fr} {i : Nat} (h : IsP p i) : xAO m p = sAsgO m i := by
  funext σ
  unfold xAO sAsgO
  rcases m σ with _ | ds
  · rfl
  · exact h _ _ _
noncomputable def xFz (l : St → Slot) (p : Pt Fr) (m : Fs) : Fs := fun σ => @Slot.rec (fun _ => Fr) (m σ) (fun _ => m σ) (fun ds => p (.val (.list ds)) σ m) (l σ)
theorem IsL.none {l : St → Slot} {i : Nat} (h : IsL l i) {σ : St} (e : σ[i]? = none) : l σ = .un := by rw [h σ, e]; rfl
theorem IsL.some {l : St → Slot} {i : Nat} (h : IsL l i) {σ : St} {s : Slot} (e : σ[i]? = some s) : l σ = s := by rw [h σ, e]; rfl
theorem xFz_eq {l : St → Slot} {p : Pt Fr} {i : Nat} {m : Fs} (hl : IsL l i) (hp : IsP p i) : xFz l p m = fun σ => m (frz i σ) := by
  funext σ
  unfold xFz frz
  cases e : σ[i]? with
  | none => rw [hl.none e]
  | some s =>
    rw [hl.some e]
    cases s with
    | own ds => exact hp _ _ _
    | _ => rfl
noncomputable def xQF (l : St → Slot) (p : Pt Fr) (m : Fs) : Fs := fun σ => @Option.rec (St × Option D) (fun _ => Fr) none (fun q => @Prod.rec St (Option D) (fun _ => Fr) (fun σ' r => @Slot.rec (fun _ => Fr) (some (σ', r)) (fun _ => some (σ', r)) (fun ds => p (.val (.list ds)) σ' fun σ' => some (σ', r)) (l σ')) q) (m σ)
theorem xQF_eq {l : St → Slot} {p : Pt Fr} {i : Nat} {m : Fs} (hl : IsL l i) (hp : IsP p i) : xQF l p m = fun σ => (match m σ with | some (σ', r) => some (frz i σ', r) | none => none) := by
  funext σ
  unfold xQF
  rcases m σ with _ | ⟨σ', r⟩
  · rfl
  · show @Slot.rec (fun _ => Fr) (some (σ', r)) (fun _ => some (σ', r)) (fun ds => p (.val (.list ds)) σ' fun σ' => some (σ', r)) (l σ') = some (frz i σ', r)
    unfold frz
    cases e : σ'[i]? with
    | none => rw [hl.none e]
    | some s =>
      rw [hl.some e]
      cases s with
      | own ds => exact hp _ _ _
      | _ => rfl
noncomputable def xSet (l : St → Slot) (p : Pt Fr) (mi mv : Fe) : Fs := fun σ => @Slot.rec (fun _ => Fr) none (fun _ => none) (fun ds => @Option.rec D (fun _ => Fr) none (fun d => @Option.rec D (fun _ => Fr) none (fun b => kInt b none fun i => kNat i none fun j =>
  kBool (shR ds) (kBool (Nat.blt j (lenR ds)) (fD d fun d => stK d ds j fun ds => p (.own ds) σ fun σ => some (σ, none)) none) none) (mi σ)) (mv σ)) (l σ)
theorem xSet_eq {l : St → Slot} {p : Pt Fr} {i : Nat} {mi mv : Fe} (hl : IsL l i) (hp : IsP p i) : xSet l p mi mv = sSet i mi mv := by
  funext σ
  unfold xSet sSet
  cases e : σ[i]? with
  | none => rw [hl.none e]
  | some s =>
    rw [hl.some e]
    cases s with
    | own ds =>
      dsimp only
      rcases mv σ with _ | d
      · rfl
      · rcases mi σ with _ | b
        · rfl
        · cases b with
          | int j =>
            cases j with
            | negSucc j => rfl
            | ofNat j =>
              show kBool (shR ds) (kBool (Nat.blt j (lenR ds)) (fD d fun d => stK d ds j fun ds => p (.own ds) σ fun σ => some (σ, none)) none) none = (match short ds with
                | true => (match Nat.blt j ds.length with | true => some (σ.set i (.own (ds.set j d)), none) | false => none)
                | false => none)
              rw [shR_eq, lenR_eq, fD_eq, stK_eq, hp]
              cases short ds
              · rfl
              · cases Nat.blt j ds.length <;> rfl
          | _ => rfl
    | _ => rfl
noncomputable def xApp (l : St → Slot) (p : Pt Fr) (m : Fe) : Fs := fun σ => @Slot.rec (fun _ => Fr) none (fun _ => none) (fun ds => @Option.rec D (fun _ => Fr) none (fun d => kBool (shR ds) (fD d fun d => snK d ds fun ds => p (.own ds) σ fun σ => some (σ, none)) none) (m σ)) (l σ)
theorem xApp_eq {l : St → Slot} {p : Pt Fr} {i : Nat} {m : Fe} (hl : IsL l i) (hp : IsP p i) : xApp l p m = sApp i m := by
  funext σ
  unfold xApp sApp
  cases e : σ[i]? with
  | none => rw [hl.none e]
  | some s =>
    rw [hl.some e]
    cases s with
    | own ds =>
      dsimp only
      rcases m σ with _ | d
      · rfl
      · show kBool (shR ds) (fD d fun d => snK d ds fun ds => p (.own ds) σ fun σ => some (σ, none)) none = (match short ds with | true => some (σ.set i (.own (ds ++ [d])), none) | false => none)
        rw [shR_eq, fD_eq, snK_eq, hp]
        cases short ds <;> rfl
    | _ => rfl
noncomputable def xAug (l : St → Slot) (p : Pt Fr) (m : Fe) : Fs := fun σ => @Slot.rec (fun _ => Fr) none (fun a => kInt a none fun a => @Option.rec D (fun _ => Fr) none (fun b => kInt b none fun b => fI (zAdd a b) fun z => p (.val (.int z)) σ fun σ => some (σ, none)) (m σ)) (fun _ => none) (l σ)
theorem xAug_eq {l : St → Slot} {p : Pt Fr} {i : Nat} {m : Fe} (hl : IsL l i) (hp : IsP p i) : xAug l p m = sAug i m := by
  funext σ
  unfold xAug sAug
  cases e : σ[i]? with
  | none => rw [hl.none e]
  | some s =>
    rw [hl.some e]
    cases s with
    | val a =>
      cases a with
      | int a =>
        dsimp only
        rcases m σ with _ | b
        · rfl
        · cases b with
          | int b =>
            show (fI (zAdd a b) fun z => p (.val (.int z)) σ fun σ => some (σ, none)) = _
            rw [fI_eq, zAdd_eq]
            exact hp _ _ _
          | _ => rfl
      | _ => rfl
    | _ => rfl
noncomputable def xWh (n : Nat) (t : Ft) (b : Fs) : Fs := @Nat.rec (fun _ => Fs) (fun _ => none) (fun _ ih σ => @Option.rec Bool (fun _ => Fr) none (fun c => kBool c (@Option.rec (St × Option D) (fun _ => Fr) none (fun q => @Prod.rec St (Option D) (fun _ => Fr) (fun σ' r => @Option.rec D (fun _ => Fr) (ih σ') (fun d => some (σ', some d)) r) q) (b σ)) (some (σ, none))) (t σ)) n
theorem xWh_eq {t : Ft} {b : Fs} : ∀ {n : Nat}, xWh n t b = sWhile n t b
  | 0 => rfl
  | n + 1 => by
    funext σ
    show @Option.rec Bool (fun _ => Fr) none (fun c => kBool c (@Option.rec (St × Option D) (fun _ => Fr) none (fun q => @Prod.rec St (Option D) (fun _ => Fr) (fun σ' r => @Option.rec D (fun _ => Fr) (xWh n t b σ') (fun d => some (σ', some d)) r) q) (b σ)) (some (σ, none))) (t σ) = sWhile (n + 1) t b σ
    unfold sWhile
    rcases t σ with _ | _ | _
    · rfl
    · rfl
    · rcases b σ with _ | ⟨σ', _ | _⟩
      · rfl
      · exact congrFun (xWh_eq (n := n)) σ'
      · rfl
noncomputable def xFL (g : St → D → Option St) (b : Fs) (ds : List D) : Fs := @List.rec D (fun _ => Fs) (fun σ => some (σ, none)) (fun d _ ih σ => @Option.rec St (fun _ => Fr) none (fun σ₁ => @Option.rec (St × Option D) (fun _ => Fr) none (fun q => @Prod.rec St (Option D) (fun _ => Fr) (fun σ₂ r => @Option.rec D (fun _ => Fr) (ih σ₂) (fun d => some (σ₂, some d)) r) q) (b σ₁)) (g σ d)) ds
theorem xFL_eq {g : St → D → Option St} {b : Fs} : ∀ ds : List D, xFL g b ds = sForL g b ds
  | [] => rfl
  | d :: ds => by
    funext σ
    show @Option.rec St (fun _ => Fr) none (fun σ₁ => @Option.rec (St × Option D) (fun _ => Fr) none (fun q => @Prod.rec St (Option D) (fun _ => Fr) (fun σ₂ r => @Option.rec D (fun _ => Fr) (xFL g b ds σ₂) (fun d => some (σ₂, some d)) r) q) (b σ₁)) (g σ d) = sForL g b (d :: ds) σ
    unfold sForL
    rcases g σ d with _ | σ₁
    · rfl
    · dsimp only
      rcases b σ₁ with _ | ⟨σ₂, _ | _⟩
      · rfl
      · exact congrFun (xFL_eq ds) σ₂
      · rfl
noncomputable def xFor (m : Fl) (g : St → D → Option St) (b : Fs) : Fs := fun σ => @Option.rec (List D) (fun _ => Fr) none (fun ds => xFL g b ds σ) (m σ)
theorem xFor_eq {m : Fl} {g : St → D → Option St} {b : Fs} : xFor m g b = sFor m g b := by
  funext σ
  unfold xFor sFor
  rcases m σ with _ | ds
  · rfl
  · exact congrFun (xFL_eq ds) σ

/- ---- comprehensions ---- -/
abbrev Kr := Option (St × List D)
noncomputable def xKE (m : Fe) : Fk := fun σ => @Option.rec D (fun _ => Kr) none (fun d => some (σ, [d])) (m σ)
theorem xKE_eq {m : Fe} : xKE m = kE m := by
  funext σ
  unfold xKE kE
  rcases m σ with _ | _ <;> rfl
noncomputable def xCL (g : St → D → Option St) (mt : Ft) (mb : Fk) (ds : List D) : Fk := @List.rec D (fun _ => Fk) (fun σ => some (σ, [])) (fun d _ ih σ => @Option.rec St (fun _ => Kr) none (fun σ₁ => @Option.rec Bool (fun _ => Kr) none (fun c => kBool c
  (@Option.rec (St × List D) (fun _ => Kr) none (fun q => @Prod.rec St (List D) (fun _ => Kr) (fun σ₂ es => @Option.rec (St × List D) (fun _ => Kr) none (fun q => @Prod.rec St (List D) (fun _ => Kr) (fun σ₃ fs => apK fs es fun l => some (σ₃, l)) q) (ih σ₂)) q) (mb σ₁)) (ih σ₁)) (mt σ₁)) (g σ d)) ds
theorem xCL_eq {g : St → D → Option St} {mt : Ft} {mb : Fk} : ∀ ds : List D, xCL g mt mb ds = cLoop g mt mb ds
  | [] => rfl
  | d :: ds => by
    funext σ
    show @Option.rec St (fun _ => Kr) none (fun σ₁ => @Option.rec Bool (fun _ => Kr) none (fun c => kBool c
      (@Option.rec (St × List D) (fun _ => Kr) none (fun q => @Prod.rec St (List D) (fun _ => Kr) (fun σ₂ es => @Option.rec (St × List D) (fun _ => Kr) none (fun q => @Prod.rec St (List D) (fun _ => Kr) (fun σ₃ fs => apK fs es fun l => some (σ₃, l)) q) (xCL g mt mb ds σ₂)) q) (mb σ₁)) (xCL g mt mb ds σ₁)) (mt σ₁)) (g σ d) = cLoop g mt mb (d :: ds) σ
    unfold cLoop
    rcases g σ d with _ | σ₁
    · rfl
    · dsimp only
      rcases mt σ₁ with _ | _ | _
      · rfl
      · exact congrFun (xCL_eq ds) σ₁
      · dsimp only
        show @Option.rec (St × List D) (fun _ => Kr) none _ (mb σ₁) = _
        rcases mb σ₁ with _ | ⟨σ₂, es⟩
        · rfl
        · dsimp only
          rw [xCL_eq ds]
          rcases cLoop g mt mb ds σ₂ with _ | ⟨σ₃, fs⟩
          · rfl
          · exact apK_eq fs es _
noncomputable def xCI (σ : St) (ro : Nat) (ls : List (St → Slot)) : St := @Nat.rec (fun _ => St) (@List.rec (St → Slot) (fun _ => St) [] (fun l _ ih => @Slot.rec (fun _ => Slot) .un (fun d => .val d) (fun _ => .un) (l σ) :: ih) ls) (fun _ ih => .un :: ih) ro
inductive IsLs : List (St → Slot) → List Nat → Prop
  | nil : IsLs [] []
  | cons {l ls i is} : IsL l i → IsLs ls is → IsLs (l :: ls) (i :: is)
theorem xCI_eq {ls : List (St → Slot)} {is : List Nat} (h : IsLs ls is) (σ : St) : ∀ ro, xCI σ ro ls = cInit σ ro is
  | 0 => by
    show @List.rec (St → Slot) (fun _ => St) [] (fun l _ ih => @Slot.rec (fun _ => Slot) .un (fun d => .val d) (fun _ => .un) (l σ) :: ih) ls = is.map (pickV σ)
    induction h with
    | nil => rfl
    | @cons l ls i is h _ ih =>
      rw [List.map_cons, ← ih]
      refine congrArg (· :: _) ?_
      unfold pickV
      cases e : σ[i]? with
      | none => rw [h.none e]
      | some s => rw [h.some e]; cases s <;> rfl
  | ro + 1 => congrArg (Slot.un :: ·) (xCI_eq h σ ro)
/-- a frame, reckoned at once -/
noncomputable def fS {R : Type} (σ : St) : (St → R) → R := @List.rec Slot (fun _ => (St → R) → R) (fun k => k []) (fun a _ ih k => @Slot.rec (fun _ => R) (ih fun r => k (.un :: r)) (fun d => fD d fun d => ih fun r => k (.val d :: r)) (fun ds => fL ds fun ds => ih fun r => k (.own ds :: r)) a) σ
theorem fS_eq {R : Type} : ∀ (σ : St) (k : St → R), fS σ k = k σ
  | [], _ => rfl
  | a :: r, k => by
    cases a with
    | un => exact fS_eq r fun r => k (.un :: r)
    | val d => exact (fD_eq d _).trans (fS_eq r fun r => k (.val d :: r))
    | own ds => exact (fL_eq ds _).trans (fS_eq r fun r => k (.own ds :: r))
noncomputable def xCm (mI : Fl) (ro : Nat) (ls : List (St → Slot)) (g : St → D → Option St) (mt : Ft) (mb : Fk) : Fl := fun σ => @Option.rec (List D) (fun _ => Option (List D)) none (fun items => fS (xCI σ ro ls) fun σ' => @Option.rec (St × List D) (fun _ => Option (List D)) none (fun q => @Prod.rec St (List D) (fun _ => Option (List D)) (fun _ es => kBool (shR es) (some es) none) q) (xCL g mt mb items σ')) (mI σ)
theorem xCm_eq {mI : Fl} {ro : Nat} {ls : List (St → Slot)} {is : List Nat} {g : St → D → Option St} {mt : Ft} {mb : Fk} (h : IsLs ls is) : xCm mI ro ls g mt mb = oComp mI ro is g mt mb := by
  funext σ
  unfold xCm oComp
  rcases mI σ with _ | items
  · rfl
  · refine (fS_eq _ _).trans ?_
    rw [xCI_eq h, xCL_eq]
    dsimp only
    rcases cLoop g mt mb items (cInit σ ro is) with _ | ⟨_, es⟩
    · rfl
    · show kBool (shR es) (some es) none = (match short es with | true => some es | false => none)
      rw [shR_eq]
      cases short es <;> rfl
noncomputable def xKG (mI : Fl) (g : St → D → Option St) (mt : Ft) (mb : Fk) : Fk := fun σ => @Option.rec (List D) (fun _ => Kr) none (fun ds => xCL g mt mb ds σ) (mI σ)
theorem xKG_eq {mI : Fl} {g : St → D → Option St} {mt : Ft} {mb : Fk} : xKG mI g mt mb = kGen mI g mt mb := by
  funext σ
  unfold xKG kGen
  rcases mI σ with _ | ds
  · rfl
  · exact congrFun (xCL_eq ds) σ

/- ---- several at once ---- -/
noncomputable def xRV (m : Fe) : Fr1 := fun σ => @Option.rec D (fun _ => Option Rv) none (fun d => some (.v d)) (m σ)
theorem xRV_eq {m : Fe} : xRV m = rV m := by
  funext σ
  unfold xRV rV
  rcases m σ with _ | _ <;> rfl
noncomputable def xRO (m : Fl) : Fr1 := fun σ => @Option.rec (List D) (fun _ => Option Rv) none (fun d => some (.o d)) (m σ)
theorem xRO_eq {m : Fl} : xRO m = rO m := by
  funext σ
  unfold xRO rO
  rcases m σ with _ | _ <;> rfl
noncomputable def xRC (m : Fr1) (ms : Frs) : Frs := fun σ => @Option.rec Rv (fun _ => Option (List Rv)) none (fun d => @Option.rec (List Rv) (fun _ => Option (List Rv)) none (fun ds => some (d :: ds)) (ms σ)) (m σ)
theorem xRC_eq {m : Fr1} {ms : Frs} : xRC m ms = rCons m ms := by
  funext σ
  unfold xRC rCons
  rcases m σ with _ | _
  · rfl
  · rcases ms σ with _ | _ <;> rfl
noncomputable def pxR (ps : List (Pt Fr)) : List Rv → St → Fr := @List.rec (Pt Fr) (fun _ => List Rv → St → Fr) (fun _ σ => some (σ, none)) (fun p _ ih rs σ => @List.rec Rv (fun _ => Fr) (some (σ, none)) (fun r t _ => @Rv.rec (fun _ => Fr) (fun d => p (.val d) σ fun σ => ih t σ) (fun ds => p (.own ds) σ fun σ => ih t σ) r) rs) ps
theorem pxR_eq {ps : List (Pt Fr)} {is : List Nat} (h : IsPs ps is) : ∀ (rs : List Rv) (σ : St), pxR ps rs σ = some (putAll σ (is.zip rs), none) := by
  induction h with
  | nil => intro rs σ; rfl
  | cons h _ ih =>
    intro rs σ
    cases rs with
    | nil => rfl
    | cons r t => cases r <;> exact (h _ _ _).trans (ih t _)
noncomputable def xTp (m : Frs) (ps : List (Pt Fr)) : Fs := fun σ => @Option.rec (List Rv) (fun _ => Fr) none (fun rs => kBool (Nat.beq (lenR rs) (lenR ps)) (pxR ps rs σ) none) (m σ)
theorem xTp_eq {m : Frs} {ps : List (Pt Fr)} {is : List Nat} (h : IsPs ps is) : xTp m ps = sTup false m is := by
  funext σ
  unfold xTp sTup
  rcases m σ with _ | rs
  · rfl
  · show kBool (Nat.beq (lenR rs) (lenR ps)) (pxR ps rs σ) none = (match Nat.beq rs.length is.length with | true => some (putAll σ (is.zip rs), none) | false => none)
    rw [lenR_eq, lenR_eq, h.len, pxR_eq h]
    cases Nat.beq rs.length is.length <;> rfl
/-- from the last to the first: the places stand turned round -/
noncomputable def xTpS (m : Frs) (ps : List (Pt Fr)) : Fs := fun σ => @Option.rec (List Rv) (fun _ => Fr) none (fun rs => kBool (Nat.beq (lenR rs) (lenR ps)) (pxR ps (revR rs []) σ) none) (m σ)
theorem xTpS_eq {m : Frs} {ps : List (Pt Fr)} {is : List Nat} (h : IsPs ps is.reverse) : xTpS m ps = sTup true m is := by
  funext σ
  unfold xTpS sTup
  rcases m σ with _ | rs
  · rfl
  · show kBool (Nat.beq (lenR rs) (lenR ps)) (pxR ps (revR rs []) σ) none = (match Nat.beq rs.length is.length with | true => some (putAll σ (is.reverse.zip rs.reverse), none) | false => none)
    rw [lenR_eq, lenR_eq, h.len, pxR_eq h, revR_eq, List.append_nil, List.length_reverse]
    cases Nat.beq rs.length is.length <;> rfl

/- ---- a def ---- -/
noncomputable def xIn (names : List Str) : List D → St := @List.rec Str (fun _ => List D → St) (fun _ => []) (fun _ _ ih ds => @List.rec D (fun _ => St) (.un :: ih []) (fun d r _ => .val d :: ih r) ds) names
theorem xIn_eq : ∀ (names : List Str) (ds : List D), ds.length ≤ names.length → xIn names ds = fInit ds names.length
  | [], [], _ => rfl
  | [], _ :: _, h => absurd h (by simp)
  | n :: ns, [], _ => by
    show Slot.un :: xIn ns [] = _
    rw [xIn_eq ns [] (Nat.zero_le _)]
    rfl
  | n :: ns, d :: ds, h => by
    show Slot.val d :: xIn ns ds = _
    rw [xIn_eq ns ds (Nat.le_of_succ_le_succ h)]
    unfold fInit
    simp
noncomputable def xBd (m : Fs) (pn names : List Str) : List D → Option D := fun ds => kBool (Nat.beq (lenR ds) (lenR pn)) (fS (xIn names ds) fun σ => @Option.rec (St × Option D) (fun _ => Option D) none (fun q => @Prod.rec St (Option D) (fun _ => Option D) (fun _ r => @Option.rec D (fun _ => Option D) (some .none) some r) q) (m σ)) none
theorem xBd_eq {m : Fs} {pn names : List Str} (h : Nat.ble pn.length names.length = true) : xBd m pn names = fBody m pn names := by
  funext ds
  unfold xBd fBody
  rw [lenR_eq, lenR_eq]
  cases e : Nat.beq ds.length pn.length with
  | false => rfl
  | true =>
    refine (fS_eq _ _).trans ?_
    rw [xIn_eq _ _ (by rw [Nat.eq_of_beq_eq_true e]; exact Nat.le_of_ble_eq_true h)]
    rcases m (fInit ds names.length) with _ | ⟨_, _ | _⟩ <;> rfl
noncomputable def rgX (x step : Int) (n : Nat) : List D := @Nat.rec (fun _ => Int → List D) (fun _ => []) (fun _ ih x => .int x :: ih (zAdd x step)) n x
theorem rgX_eq (step : Int) : ∀ (n : Nat) (x : Int), rgX x step n = rangeL x step n
  | 0, _ => rfl
  | n + 1, x => by
    show PyData.int x :: rgX (zAdd x step) step n = _
    rw [rgX_eq step n, zAdd_eq]
    rfl
noncomputable def rkX (a b : Int) (z : Option (List D)) (k : Nat → Nat → Option (List D)) : Option (List D) := kNat a z fun a => kNat b z fun b => kBool (Nat.ble b 4096) (kBool (Nat.ble a 4096) (k a b) z) z
theorem rkX_eq {a b : Int} {z : Option (List D)} {k : Nat → Nat → Option (List D)} (h : ∀ m n : Nat, m ≤ 4096 → n ≤ 4096 → a = m → b = n → k m n = z) : rkX a b z k = z := by
  cases a with
  | negSucc a => rfl
  | ofNat a =>
    cases b with
    | negSucc b => rfl
    | ofNat b =>
      show kBool (Nat.ble b 4096) (kBool (Nat.ble a 4096) (k a b) z) z = z
      cases e1 : Nat.ble b 4096 with
      | false => rfl
      | true =>
        cases e2 : Nat.ble a 4096 with
        | false => rfl
        | true => exact h a b (Nat.le_of_ble_eq_true e2) (Nat.le_of_ble_eq_true e1) rfl rfl
theorem size1 (a b : Nat) : Builtin.Range.rangeSize (a : Int) b 1 = ((b - a : Nat) : Int) := by
  unfold Builtin.Range.rangeSize
  rw [if_pos (by decide)]
  split
  · rw [Int.ediv_one]; omega
  · omega
theorem sizeM (a : Nat) : Builtin.Range.rangeSize (a : Int) (-1) (-1) = ((a + 1 : Nat) : Int) := by
  unfold Builtin.Range.rangeSize
  rw [if_neg (by decide), if_pos (by omega)]
  show ((a : Int) - -1 - 1) / - -1 + 1 = _
  rw [show - -(1 : Int) = 1 from rfl, Int.ediv_one]; omega
theorem fits {x : Int} (h1 : -5000 ≤ x) (h2 : x ≤ 5000) : Builtin.Range.rangeFitsLong x = true := by
  unfold Builtin.Range.rangeFitsLong
  simp only [Bool.and_eq_true, decide_eq_true_eq]
  omega
theorem rOk1 {a b : Nat} (ha : a ≤ 4096) (hb : b ≤ 4096) : rOk a b 1 = true := by
  unfold rOk Builtin.Range.small
  rw [size1, fits (x := (a : Int)) (by omega) (by omega), fits (x := (b : Int)) (by omega) (by omega), fits (x := 1) (by omega) (by omega), fits (x := ((b - a : Nat) : Int)) (by omega) (by omega), if_pos (by decide), fits (x := (b : Int) + (1 - 1)) (by omega) (by omega)]
  rw [show Builtin.divisionGoesByPylong ((b : Int) - a) 1 = false from rfl]
  rw [leB_dec, decide_eq_true (by omega), show PySem.W.Z.eqB 1 0 = false from rfl]
  simp
theorem rOkM {a : Nat} (ha : a ≤ 4096) : rOk a (-1) (-1) = true := by
  unfold rOk Builtin.Range.small
  rw [sizeM, fits (x := (a : Int)) (by omega) (by omega), fits (x := -1) (by omega) (by omega), fits (x := ((a + 1 : Nat) : Int)) (by omega) (by omega), if_neg (by decide), fits (x := (-1 : Int) + (-1 + 1)) (by omega) (by omega)]
  rw [show Builtin.divisionGoesByPylong ((-1 : Int) - a) (-1) = false from rfl]
  rw [leB_dec, decide_eq_true (by omega), show PySem.W.Z.eqB (-1) 0 = false from rfl]
  simp
/-- range, of small numbers -/
noncomputable def fRangeX (ds : List D) : Option (List D) := @List.rec D (fun _ => Option (List D)) none (fun a r _ => kInt a (fRange ds) fun a => @List.rec D (fun _ => Option (List D)) (rkX (.ofNat 0) a (fRange ds) fun _ b => some (rgX (.ofNat 0) (.ofNat 1) b))
  (fun b r _ => kInt b (fRange ds) fun b => @List.rec D (fun _ => Option (List D)) (rkX a b (fRange ds) fun a b => some (rgX (.ofNat a) (.ofNat 1) (Nat.sub b a)))
    (fun c r _ => @List.rec D (fun _ => Option (List D)) (kInt c (fRange ds) fun c => kBool (zEq c (.negSucc 0)) (kBool (zEq b (.negSucc 0)) (rkX a (.ofNat 0) (fRange ds) fun a _ => some (rgX (.ofNat a) (.negSucc 0) (Nat.succ a))) (fRange ds)) (fRange ds)) (fun _ _ _ => fRange ds) r) r) r) ds
theorem fR1 (b : Int) (n : Nat) (h : rOk 0 b 1 = true) (h' : Builtin.Range.rangeSize 0 b 1 = (n : Int)) : fRange [.int b] = some (rangeL 0 1 n) := by
  show (match rOk 0 b 1 with | true => some (rangeL 0 1 (Builtin.Range.rangeSize 0 b 1).toNat) | false => none) = _
  rw [h, h', Int.toNat_natCast]
theorem fR2 (a b : Int) (n : Nat) (h : rOk a b 1 = true) (h' : Builtin.Range.rangeSize a b 1 = (n : Int)) : fRange [.int a, .int b] = some (rangeL a 1 n) := by
  show (match rOk a b 1 with | true => some (rangeL a 1 (Builtin.Range.rangeSize a b 1).toNat) | false => none) = _
  rw [h, h', Int.toNat_natCast]
theorem fR3 (a b c : Int) (n : Nat) (h : rOk a b c = true) (h' : Builtin.Range.rangeSize a b c = (n : Int)) : fRange [.int a, .int b, .int c] = some (rangeL a c n) := by
  show (match rOk a b c with | true => some (rangeL a c (Builtin.Range.rangeSize a b c).toNat) | false => none) = _
  rw [h, h', Int.toNat_natCast]
theorem fRangeX1 (a : Int) : fRangeX [.int a] = fRange [.int a] := by
  show rkX (.ofNat 0) a (fRange [.int a]) (fun _ b => some (rgX (.ofNat 0) (.ofNat 1) b)) = fRange [.int a]
  refine rkX_eq fun m n h1 h2 e1 e2 => ?_
  subst e2
  rw [fR1 n n (rOk1 (a := 0) (Nat.zero_le _) h2) (size1 0 n), rgX_eq]
  rfl
theorem fRangeX2 (a b : Int) : fRangeX [.int a, .int b] = fRange [.int a, .int b] := by
  show rkX a b (fRange [.int a, .int b]) (fun a b => some (rgX (.ofNat a) (.ofNat 1) (Nat.sub b a))) = fRange [.int a, .int b]
  refine rkX_eq fun m n h1 h2 e1 e2 => ?_
  subst e1 e2
  rw [fR2 m n (n - m) (rOk1 h1 h2) (size1 m n), rgX_eq]
  rfl
theorem fRangeX3 (a b c : Int) : fRangeX [.int a, .int b, .int c] = fRange [.int a, .int b, .int c] := by
  show kBool (zEq c (.negSucc 0)) (kBool (zEq b (.negSucc 0)) (rkX a (.ofNat 0) (fRange [.int a, .int b, .int c]) fun a _ => some (rgX (.ofNat a) (.negSucc 0) (Nat.succ a))) (fRange [.int a, .int b, .int c])) (fRange [.int a, .int b, .int c]) = fRange [.int a, .int b, .int c]
  cases ec : zEq c (.negSucc 0) with
  | false => rfl
  | true =>
    cases eb : zEq b (.negSucc 0) with
    | false => rfl
    | true =>
      rw [zEq_eq, eqB_dec] at ec eb
      have ec := of_decide_eq_true ec
      have eb := of_decide_eq_true eb
      subst ec eb
      show rkX a (.ofNat 0) (fRange [.int a, .int (-1), .int (-1)]) (fun a _ => some (rgX (.ofNat a) (.negSucc 0) (Nat.succ a))) = fRange [.int a, .int (-1), .int (-1)]
      refine rkX_eq fun m n h1 h2 e1 e2 => ?_
      subst e1
      rw [fR3 m (-1) (-1) (m + 1) (rOkM h1) (sizeM m), rgX_eq]
      rfl
theorem fRangeX_eq : fRangeX = fRange := by
  funext ds
  match ds with
  | [] => rfl
  | [.int a] => exact fRangeX1 a
  | [.none] | [.bool _] | [.str _] | [.list _] | [.tuple _] | [.dict _] => rfl
  | [.int a, .int b] => exact fRangeX2 a b
  | [.int a, .int b, .int c] => exact fRangeX3 a b c
  | [.int a, .int b, .none] | [.int a, .int b, .bool _] | [.int a, .int b, .str _] | [.int a, .int b, .list _] | [.int a, .int b, .tuple _] | [.int a, .int b, .dict _] => rfl
  | .int _ :: .int _ :: _ :: _ :: _ => rfl
  | .int _ :: .none :: _ | .int _ :: .bool _ :: _ | .int _ :: .str _ :: _ | .int _ :: .list _ :: _ | .int _ :: .tuple _ :: _ | .int _ :: .dict _ :: _ => rfl
  | .none :: _ :: _ | .bool _ :: _ :: _ | .str _ :: _ :: _ | .list _ :: _ :: _ | .tuple _ :: _ :: _ | .dict _ :: _ :: _ => rfl
noncomputable def enX (l : List D) : Nat → List D := @List.rec D (fun _ => Nat → List D) (fun _ => []) (fun d _ ih i => .tuple [.int (.ofNat i), d] :: ih (Nat.succ i)) l
theorem enX_eq : ∀ (l : List D) (i : Nat), enX l i = enumL i l
  | [], _ => rfl
  | d :: l, i => by
    show PyData.tuple [.int (.ofNat i), d] :: enX l (i + 1) = _
    rw [enX_eq l]
    rfl
noncomputable def xEn (m : Fe) : Fl := fun σ => @Option.rec D (fun _ => Option (List D)) none (fun a => kLst a none fun l => fL (enX l 0) some) (m σ)
theorem xEn_eq {m : Fe} : xEn m = bindLO fEnum (lCons m lNil) := by
  funext σ
  unfold xEn bindLO lCons lNil
  rcases m σ with _ | a
  · rfl
  · cases a with
    | list l =>
      show fL (enX l 0) some = some (enumL 0 l)
      rw [fL_eq, enX_eq]
    | _ => rfl
/- ---- both ways of reckoning ---- -/
theorem IsL.n : ∀ i, IsL (@Nat.rec (fun _ => St → Slot) hdX (fun _ ih σ => ih (tlX σ)) i) i
  | 0 => .z
  | i + 1 => .s (IsL.n i)
theorem IsP.n {R : Type} : ∀ i, IsP (R := R) (@Nat.rec (fun _ => Pt R) pZ (fun _ ih => pS ih) i) i
  | 0 => .z
  | i + 1 => .s (IsP.n i)
noncomputable def lN (i : Nat) : St → Slot := @Nat.rec (fun _ => St → Slot) hdX (fun _ ih σ => ih (tlX σ)) i
noncomputable def pN {R : Type} (i : Nat) : Pt R := @Nat.rec (fun _ => Pt R) pZ (fun _ ih => pS ih) i
theorem lN_is (i : Nat) : IsL (lN i) i := IsL.n i
theorem pN_is {R : Type} (i : Nat) : IsP (pN (R := R) i) i := IsP.n i
theorem lNs : ∀ is : List Nat, IsLs (is.map lN) is
  | [] => .nil
  | i :: is => .cons (lN_is i) (lNs is)
theorem pNs {R : Type} : ∀ is : List Nat, IsPs (is.map (pN (R := R))) is
  | [] => .nil
  | i :: is => .cons (pN_is i) (pNs is)
noncomputable def xSF (m : Fs) : Fs := fun σ => @Option.rec (St × Option D) (fun _ => Fr) none (fun q => @Prod.rec St (Option D) (fun _ => Fr) (fun σ' r => fS σ' fun σ' => some (σ', r)) q) (m σ)
theorem xSF_eq {m : Fs} : xSF m = m := by
  funext σ
  unfold xSF
  rcases m σ with _ | ⟨σ', r⟩
  · rfl
  · exact fS_eq σ' fun σ' => some (σ', r)
structure Ops where
  va : Nat → Fe
  bo : Nat → Fe
  add : Fe → Fe → Fe
  sub : Fe → Fe → Fe
  mul : Fe → Fe → Fe
  mod : Fe → Fe → Fe
  div : Fe → Fe → Fe
  b2 : (D → D → Option D) → Fe → Fe → Fe
  b1 : (D → Option D) → Fe → Fe
  idx : Fe → Fe → Fe
  lc : Fe → Fl → Fl
  tp1 : Fl → Fe
  lst : Fl → Fl
  eo : Fl → Fe
  ei : Ft → Fe → Fe → Fe
  ca : Fe → Fe → Fl
  rev : Fe → Fl
  bl : (List D → Option D) → Fl → Fe
  blo : (List D → Option (List D)) → Fl → Fl
  il : Fe → Fl
  len : Fe → Fe
  max : Fe → Fe → Fe
  rng : Fl → Fl
  en : Fe → Fl
  tt : Fe → Ft
  lt : Fe → Fe → Ft
  le : Fe → Fe → Ft
  gt : Fe → Fe → Ft
  ge : Fe → Fe → Ft
  eq : Fe → Fe → Ft
  ne : Fe → Fe → Ft
  sq : Fs → Fs → Fs
  rt : Fe → Fs
  si : Ft → Fs → Fs → Fs
  asg : Fe → (St → D → Option St) → Fs
  gn : Nat → St → D → Option St
  gtp : List Nat → St → D → Option St
  ao : Fl → Nat → Fs
  fz : Nat → Fs → Fs
  qf : Nat → Fs → Fs
  st : Nat → Fe → Fe → Fs
  ap : Nat → Fe → Fs
  au : Nat → Fe → Fs
  wh : Nat → Ft → Fs → Fs
  fo : Fl → (St → D → Option St) → Fs → Fs
  ke : Fe → Fk
  cm : Fl → Nat → List Nat → (St → D → Option St) → Ft → Fk → Fl
  kg : Fl → (St → D → Option St) → Ft → Fk → Fk
  rv : Fe → Fr1
  ro : Fl → Fr1
  rc : Fr1 → Frs → Frs
  tu : Frs → List Nat → Fs
  tus : Frs → List Nat → Fs
  bd : Fs → List Str → List Str → List D → Option D
  f : Fe → Fe
  lf : Fl → Fl
  ss : Fs → Fs
noncomputable def slowO : Ops := ⟨fun i => eVar i,
  fun i => eVarB i,
  fun a b => bind2 dAdd a b,
  fun a b => bind2 dSub a b,
  fun a b => bind2 dMul a b,
  fun a b => bind2 dMod a b,
  fun a b => bind2 dDiv a b,
  fun f a b => bind2 f a b,
  fun f a => bind1 f a,
  fun a b => bind2 dIdx a b,
  fun a b => lCons a b,
  fun a => eTup a,
  fun a => oLst a,
  fun a => eO a,
  fun t a b => eIf t a b,
  fun a b => oCat a b,
  fun a => oRev a,
  fun F a => bindL F a,
  fun F a => bindLO F a,
  fun a => iList a,
  fun a => bindL fLen (lCons a lNil),
  fun a b => bindL fMax (lCons a (lCons b lNil)),
  fun a => bindLO fRange a,
  fun a => bindLO fEnum (lCons a lNil),
  fun a => tOf a,
  fun a b => tOf (bind2 dLt a b),
  fun a b => tOf (bind2 dLe a b),
  fun a b => tOf (bind2 dGt a b),
  fun a b => tOf (bind2 dGe a b),
  fun a b => tOf (bind2 dEq a b),
  fun a b => tOf (bind2 dNe a b),
  fun a b => sSeq a b,
  fun a => sRet a,
  fun t a b => sIf t a b,
  fun a g => sAsg a g,
  fun i => gName i,
  fun is => gTup is,
  fun a i => sAsgO a i,
  fun i a => sFrz i a,
  fun i a => sSeqF i a,
  fun i a b => sSet i a b,
  fun i a => sApp i a,
  fun i a => sAug i a,
  fun n t b => sWhile n t b,
  fun m g b => sFor m g b,
  fun a => kE a,
  fun m ro is g t b => oComp m ro is g t b,
  fun m g t b => kGen m g t b,
  fun a => rV a,
  fun a => rO a,
  fun a b => rCons a b,
  fun m is => sTup false m is,
  fun m is => sTup true m is,
  fun m a b => fBody m a b,
  fun a => a,
  fun a => a,
  fun a => a⟩
noncomputable def fastO : Ops := ⟨fun i σ => sVal (lN i σ),
  fun i σ => sBor (lN i σ),
  fun a b => xAdd a b,
  fun a b => xSub a b,
  fun a b => xMul a b,
  fun a b => xMod a b,
  fun a b => xDiv a b,
  fun f a b => x2 f a b,
  fun f a => x1 f a,
  fun a b => xIdx a b,
  fun a b => xLC a b,
  fun a => xTup a,
  fun a => xLst a,
  fun a => xO a,
  fun t a b => xIf t a b,
  fun a b => xCat a b,
  fun a => xRev a,
  fun F a => xBL F a,
  fun F a => xBO F a,
  fun a => xIL a,
  fun a => xLen a,
  fun a b => xMax a b,
  fun a => xLF (xBO fRangeX a),
  fun a => xEn a,
  fun a => xT a,
  fun a b => xLt a b,
  fun a b => xLe a b,
  fun a b => xGt a b,
  fun a b => xGe a b,
  fun a b => xEq a b,
  fun a b => xNe a b,
  fun a b => xSeq a b,
  fun a => xRet a,
  fun t a b => xSI t a b,
  fun a g => xAsg a g,
  fun i => xG (pN i),
  fun is => xGT (is.map pN),
  fun a i => xAO a (pN i),
  fun i a => xFz (lN i) (pN i) a,
  fun i a => xQF (lN i) (pN i) a,
  fun i a b => xSet (lN i) (pN i) a b,
  fun i a => xApp (lN i) (pN i) a,
  fun i a => xAug (lN i) (pN i) a,
  fun n t b => xWh n t b,
  fun m g b => xFor m g b,
  fun a => xKE a,
  fun m ro is g t b => xCm m ro (is.map lN) g t b,
  fun m g t b => xKG m g t b,
  fun a => xRV a,
  fun a => xRO a,
  fun a b => xRC a b,
  fun m is => xTp m (is.map pN),
  fun m is => xTpS m (is.reverse.map pN),
  fun m a b => @Bool.rec (fun _ => List D → Option D) (fBody m a b) (xBd m a b) (Nat.ble a.length b.length),
  fun a => xF a,
  fun a => xLF a,
  fun a => xSF a⟩
theorem o_va : slowO.va = fastO.va := funext fun i => (sVal_eq (lN_is i)).symm
theorem o_bo : slowO.bo = fastO.bo := funext fun i => (sBor_eq (lN_is i)).symm
theorem o_add : slowO.add = fastO.add := funext fun _ => funext fun _ => xAdd_eq.symm
theorem o_sub : slowO.sub = fastO.sub := funext fun _ => funext fun _ => xSub_eq.symm
theorem o_mul : slowO.mul = fastO.mul := funext fun _ => funext fun _ => xMul_eq.symm
theorem o_mod : slowO.mod = fastO.mod := funext fun _ => funext fun _ => xMod_eq.symm
theorem o_div : slowO.div = fastO.div := funext fun _ => funext fun _ => xDiv_eq.symm
theorem o_b2 : slowO.b2 = fastO.b2 := funext fun _ => funext fun _ => funext fun _ => x2_eq.symm
theorem o_b1 : slowO.b1 = fastO.b1 := funext fun _ => funext fun _ => x1_eq.symm
theorem o_idx : slowO.idx = fastO.idx := funext fun _ => funext fun _ => xIdx_eq.symm
theorem o_lc : slowO.lc = fastO.lc := funext fun _ => funext fun _ => xLC_eq.symm
theorem o_tp1 : slowO.tp1 = fastO.tp1 := funext fun _ => xTup_eq.symm
theorem o_lst : slowO.lst = fastO.lst := funext fun _ => xLst_eq.symm
theorem o_eo : slowO.eo = fastO.eo := funext fun _ => xO_eq.symm
theorem o_ei : slowO.ei = fastO.ei := funext fun _ => funext fun _ => funext fun _ => xIf_eq.symm
theorem o_ca : slowO.ca = fastO.ca := funext fun _ => funext fun _ => xCat_eq.symm
theorem o_rev : slowO.rev = fastO.rev := funext fun _ => xRev_eq.symm
theorem o_bl : slowO.bl = fastO.bl := funext fun _ => funext fun _ => xBL_eq.symm
theorem o_blo : slowO.blo = fastO.blo := funext fun _ => funext fun _ => xBO_eq.symm
theorem o_il : slowO.il = fastO.il := funext fun _ => xIL_eq.symm
theorem o_len : slowO.len = fastO.len := funext fun _ => xLen_eq.symm
theorem o_max : slowO.max = fastO.max := funext fun _ => funext fun _ => xMax_eq.symm
theorem o_rng : slowO.rng = fastO.rng := funext fun _ => (xLF_eq.trans (xBO_eq.trans (congrArg (fun F => bindLO F _) fRangeX_eq))).symm
theorem o_en : slowO.en = fastO.en := funext fun _ => xEn_eq.symm
theorem o_tt : slowO.tt = fastO.tt := funext fun _ => xT_eq.symm
theorem o_lt : slowO.lt = fastO.lt := funext fun _ => funext fun _ => xLt_eq.symm
theorem o_le : slowO.le = fastO.le := funext fun _ => funext fun _ => xLe_eq.symm
theorem o_gt : slowO.gt = fastO.gt := funext fun _ => funext fun _ => xGt_eq.symm
theorem o_ge : slowO.ge = fastO.ge := funext fun _ => funext fun _ => xGe_eq.symm
theorem o_eq : slowO.eq = fastO.eq := funext fun _ => funext fun _ => xEq_eq.symm
theorem o_ne : slowO.ne = fastO.ne := funext fun _ => funext fun _ => xNe_eq.symm
theorem o_sq : slowO.sq = fastO.sq := funext fun _ => funext fun _ => xSeq_eq.symm
theorem o_rt : slowO.rt = fastO.rt := funext fun _ => xRet_eq.symm
theorem o_si : slowO.si = fastO.si := funext fun _ => funext fun _ => funext fun _ => xSI_eq.symm
theorem o_asg : slowO.asg = fastO.asg := funext fun _ => funext fun _ => (xAsg_eq rfl).symm
theorem o_gn : slowO.gn = fastO.gn := funext fun i => (xG_eq (pN_is i)).symm
theorem o_gtp : slowO.gtp = fastO.gtp := funext fun is => (xGT_eq (pNs is)).symm
theorem o_ao : slowO.ao = fastO.ao := funext fun _ => funext fun i => (xAO_eq (pN_is i)).symm
theorem o_fz : slowO.fz = fastO.fz := funext fun i => funext fun _ => (xFz_eq (lN_is i) (pN_is i)).symm
theorem o_qf : slowO.qf = fastO.qf := funext fun i => funext fun _ => (xQF_eq (lN_is i) (pN_is i)).symm
theorem o_st : slowO.st = fastO.st := funext fun i => funext fun _ => funext fun _ => (xSet_eq (lN_is i) (pN_is i)).symm
theorem o_ap : slowO.ap = fastO.ap := funext fun i => funext fun _ => (xApp_eq (lN_is i) (pN_is i)).symm
theorem o_au : slowO.au = fastO.au := funext fun i => funext fun _ => (xAug_eq (lN_is i) (pN_is i)).symm
theorem o_wh : slowO.wh = fastO.wh := funext fun _ => funext fun _ => funext fun _ => xWh_eq.symm
theorem o_fo : slowO.fo = fastO.fo := funext fun _ => funext fun _ => funext fun _ => xFor_eq.symm
theorem o_ke : slowO.ke = fastO.ke := funext fun _ => xKE_eq.symm
theorem o_cm : slowO.cm = fastO.cm := funext fun _ => funext fun _ => funext fun is => funext fun _ => funext fun _ => funext fun _ => (xCm_eq (lNs is)).symm
theorem o_kg : slowO.kg = fastO.kg := funext fun _ => funext fun _ => funext fun _ => funext fun _ => xKG_eq.symm
theorem o_rv : slowO.rv = fastO.rv := funext fun _ => xRV_eq.symm
theorem o_ro : slowO.ro = fastO.ro := funext fun _ => xRO_eq.symm
theorem o_rc : slowO.rc = fastO.rc := funext fun _ => funext fun _ => xRC_eq.symm
theorem o_tu : slowO.tu = fastO.tu := funext fun _ => funext fun is => (xTp_eq (pNs is)).symm
theorem o_tus : slowO.tus = fastO.tus := funext fun _ => funext fun is => (xTpS_eq (pNs is.reverse)).symm
theorem o_bd : slowO.bd = fastO.bd := funext fun m => funext fun a => funext fun b => (show ∀ c, Nat.ble a.length b.length = c → fBody m a b = @Bool.rec (fun _ => List D → Option D) (fBody m a b) (xBd m a b) c from fun c e => match c, e with | false, _ => rfl | true, e => (xBd_eq e).symm) _ rfl
theorem o_f : slowO.f = fastO.f := funext fun _ => xF_eq.symm
theorem o_lf : slowO.lf = fastO.lf := funext fun _ => xLF_eq.symm
theorem o_ss : slowO.ss = fastO.ss := funext fun _ => xSF_eq.symm
theorem ops_eq : slowO = fastO := congr (congr (congr (congr (congr (congr (congr (congr (congr (congr (congr (congr (congr (congr (congr (congr (congr (congr (congr (congr (congr (congr (congr (congr (congr (congr (congr (congr (congr (congr (congr (congr (congr (congr (congr (congr (congr (congr (congr (congr (congr (congr (congr (congr (congr (congr (congr (congr (congr (congr (congr (congr (congr (congr (congr (congr (congrArg Ops.mk o_va) o_bo) o_add) o_sub) o_mul) o_mod) o_div) o_b2) o_b1) o_idx) o_lc) o_tp1) o_lst) o_eo) o_ei) o_ca) o_rev) o_bl) o_blo) o_il) o_len) o_max) o_rng) o_en) o_tt) o_lt) o_le) o_gt) o_ge) o_eq) o_ne) o_sq) o_rt) o_si) o_asg) o_gn) o_gtp) o_ao) o_fz) o_qf) o_st) o_ap) o_au) o_wh) o_fo) o_ke) o_cm) o_kg) o_rv) o_ro) o_rc) o_tu) o_tus) o_bd) o_f) o_lf) o_ss
end Pf


namespace Pf
open PySem PySem.Calls PyProof.Rows PySem.W
/- ---- each function by the fast combinators ---- -/
noncomputable def X_never : List D → Option D := F_never
theorem FX_never : F_never = X_never := rfl
noncomputable def gm_extended (o : Ops)  : Fs := (o.sq (o.tus (o.rc (o.rv (o.f (o.tp1 (o.lc (o.va 0) (o.lc (eC (.int (.ofNat 1))) (o.lc (eC (.int (.ofNat 0))) lNil)))))) (o.rc (o.rv (o.f (o.tp1 (o.lc (o.va 1) (o.lc (eC (.int (.ofNat 0))) (o.lc (eC (.int (.ofNat 1))) lNil)))))) rNil)) [2, 3]) (o.sq (o.wh 5000 (o.ne (o.idx (o.bo 3) (eC (.int (.ofNat 0)))) (eC (.int (.ofNat 0)))) (o.sq (o.asg (o.f (o.div (o.idx (o.bo 2) (eC (.int (.ofNat 0)))) (o.idx (o.bo 3) (eC (.int (.ofNat 0)))))) (o.gn 4)) (o.sq (o.asg (o.f (o.tp1 (o.lc (o.sub (o.idx (o.bo 2) (eC (.int (.ofNat 0)))) (o.mul (o.va 4) (o.idx (o.bo 3) (eC (.int (.ofNat 0)))))) (o.lc (o.sub (o.idx (o.bo 2) (eC (.int (.ofNat 1)))) (o.mul (o.va 4) (o.idx (o.bo 3) (eC (.int (.ofNat 1)))))) (o.lc (o.sub (o.idx (o.bo 2) (eC (.int (.ofNat 2)))) (o.mul (o.va 4) (o.idx (o.bo 3) (eC (.int (.ofNat 2)))))) lNil))))) (o.gn 5)) (o.sq (o.tus (o.rc (o.rv (o.va 3)) (o.rc (o.rv (o.va 5)) rNil)) [2, 3]) sNil)))) (o.sq (o.rt (o.f (o.ei (o.ge (o.idx (o.bo 2) (eC (.int (.ofNat 0)))) (eC (.int (.ofNat 0)))) (o.va 2) (o.tp1 (o.lc (o.sub (eC (.int (.ofNat 0))) (o.idx (o.bo 2) (eC (.int (.ofNat 0))))) (o.lc (o.sub (eC (.int (.ofNat 0))) (o.idx (o.bo 2) (eC (.int (.ofNat 1))))) (o.lc (o.sub (eC (.int (.ofNat 0))) (o.idx (o.bo 2) (eC (.int (.ofNat 2))))) lNil))))))) sNil)))
noncomputable def xm_extended : Fs := (xSeq (xTpS (xRC (xRV (xF (xTup (xLC vX0 (xLC (eC (.int (.ofNat 1))) (xLC (eC (.int (.ofNat 0))) lNil)))))) (xRC (xRV (xF (xTup (xLC vX1 (xLC (eC (.int (.ofNat 0))) (xLC (eC (.int (.ofNat 1))) lNil)))))) rNil)) [pX3, pX2]) (xSeq (xWh 5000 (xNe (xIdx bX3 (eC (.int (.ofNat 0)))) (eC (.int (.ofNat 0)))) (xSeq (xAsg (xF (xDiv (xIdx bX2 (eC (.int (.ofNat 0)))) (xIdx bX3 (eC (.int (.ofNat 0)))))) (xG pX4)) (xSeq (xAsg (xF (xTup (xLC (xSub (xIdx bX2 (eC (.int (.ofNat 0)))) (xMul vX4 (xIdx bX3 (eC (.int (.ofNat 0)))))) (xLC (xSub (xIdx bX2 (eC (.int (.ofNat 1)))) (xMul vX4 (xIdx bX3 (eC (.int (.ofNat 1)))))) (xLC (xSub (xIdx bX2 (eC (.int (.ofNat 2)))) (xMul vX4 (xIdx bX3 (eC (.int (.ofNat 2)))))) lNil))))) (xG pX5)) (xSeq (xTpS (xRC (xRV vX3) (xRC (xRV vX5) rNil)) [pX3, pX2]) sNil)))) (xSeq (xRet (xF (xIf (xGe (xIdx bX2 (eC (.int (.ofNat 0)))) (eC (.int (.ofNat 0)))) vX2 (xTup (xLC (xSub (eC (.int (.ofNat 0))) (xIdx bX2 (eC (.int (.ofNat 0))))) (xLC (xSub (eC (.int (.ofNat 0))) (xIdx bX2 (eC (.int (.ofNat 1))))) (xLC (xSub (eC (.int (.ofNat 0))) (xIdx bX2 (eC (.int (.ofNat 2))))) lNil))))))) sNil)))
theorem xxm_extended : m_extended = xm_extended := by
  have h1 : m_extended = gm_extended slowO  := by kernel_rfl
  have h2 : xm_extended = gm_extended fastO  := by kernel_rfl
  rw [h1, h2, ops_eq]
noncomputable def X_extended : List D → Option D := xBd xm_extended ["a", "b"] ["a", "b", "one", "other", "times", "rest"]
theorem FX_extended : F_extended = X_extended := by
  have h1 : F_extended = slowO.bd m_extended ["a", "b"] ["a", "b", "one", "other", "times", "rest"] := by kernel_rfl
  have h2 : X_extended = fastO.bd xm_extended ["a", "b"] ["a", "b", "one", "other", "times", "rest"] := by kernel_rfl
  rw [h1, h2, ops_eq, xxm_extended]
noncomputable def gm_inverse_mod (o : Ops) (f_extended : List D → Option D) : Fs := (o.sq (o.asg (o.bl f_extended (o.lc (o.mod (o.va 0) (o.va 1)) (o.lc (o.va 1) lNil))) (o.gtp [2, 3, 4])) (o.sq (o.rt (o.f (o.ei (o.eq (o.va 2) (eC (.int (.ofNat 1)))) (o.mod (o.va 3) (o.va 1)) (eC .none)))) sNil))
noncomputable def xm_inverse_mod : Fs := (xSeq (xAsg (xBL X_extended (xLC (xMod vX0 vX1) (xLC vX1 lNil))) (xGT [pX2, pX3, pX4])) (xSeq (xRet (xF (xIf (xEq vX2 (eC (.int (.ofNat 1)))) (xMod vX3 vX1) (eC .none)))) sNil))
theorem xxm_inverse_mod : m_inverse_mod = xm_inverse_mod := by
  have h1 : m_inverse_mod = gm_inverse_mod slowO F_extended := by kernel_rfl
  have h2 : xm_inverse_mod = gm_inverse_mod fastO X_extended := by kernel_rfl
  rw [h1, h2, ops_eq, FX_extended]
noncomputable def X_inverse_mod : List D → Option D := xBd xm_inverse_mod ["a", "m"] ["a", "m", "g", "s", "t"]
theorem FX_inverse_mod : F_inverse_mod = X_inverse_mod := by
  have h1 : F_inverse_mod = slowO.bd m_inverse_mod ["a", "m"] ["a", "m", "g", "s", "t"] := by kernel_rfl
  have h2 : X_inverse_mod = fastO.bd xm_inverse_mod ["a", "m"] ["a", "m", "g", "s", "t"] := by kernel_rfl
  rw [h1, h2, ops_eq, xxm_inverse_mod]
noncomputable def gm_least_divisor (o : Ops)  : Fs := (o.sq (o.asg (o.va 1) (o.gn 2)) (o.sq (o.wh 5000 (o.le (o.mul (o.va 2) (o.va 2)) (o.va 0)) (o.sq (o.si (o.eq (o.mod (o.va 0) (o.va 2)) (eC (.int (.ofNat 0)))) (o.sq (o.rt (o.va 2)) sNil) sNil) (o.sq (o.au 2 (o.ei (o.eq (o.va 2) (eC (.int (.ofNat 2)))) (eC (.int (.ofNat 1))) (eC (.int (.ofNat 2))))) sNil))) (o.sq (o.rt (o.va 0)) sNil)))
noncomputable def xm_least_divisor : Fs := (xSeq (xAsg vX1 (xG pX2)) (xSeq (xWh 5000 (xLe (xMul vX2 vX2) vX0) (xSeq (xSI (xEq (xMod vX0 vX2) (eC (.int (.ofNat 0)))) (xSeq (xRet vX2) sNil) sNil) (xSeq (xAug lX2 pX2 (xIf (xEq vX2 (eC (.int (.ofNat 2)))) (eC (.int (.ofNat 1))) (eC (.int (.ofNat 2))))) sNil))) (xSeq (xRet vX0) sNil)))
theorem xxm_least_divisor : m_least_divisor = xm_least_divisor := by
  have h1 : m_least_divisor = gm_least_divisor slowO  := by kernel_rfl
  have h2 : xm_least_divisor = gm_least_divisor fastO  := by kernel_rfl
  rw [h1, h2, ops_eq]
noncomputable def X_least_divisor : List D → Option D := xBd xm_least_divisor ["n", "begin"] ["n", "begin", "found"]
theorem FX_least_divisor : F_least_divisor = X_least_divisor := by
  have h1 : F_least_divisor = slowO.bd m_least_divisor ["n", "begin"] ["n", "begin", "found"] := by kernel_rfl
  have h2 : X_least_divisor = fastO.bd xm_least_divisor ["n", "begin"] ["n", "begin", "found"] := by kernel_rfl
  rw [h1, h2, ops_eq, xxm_least_divisor]
noncomputable def gm_prime_factors (o : Ops) (f_least_divisor : List D → Option D) : Fs := (o.sq (o.tus (o.rc (o.ro (o.lf (o.lst lNil))) (o.rc (o.rv (eC (.int (.ofNat 2)))) rNil)) [1, 2]) (o.sq (o.wh 5000 (o.gt (o.va 0) (eC (.int (.ofNat 1)))) (o.sq (o.tus (o.rc (o.rv (o.bl f_least_divisor (o.lc (o.va 0) (o.lc (o.va 2) lNil)))) (o.rc (o.rv (eC (.int (.ofNat 0)))) rNil)) [2, 3]) (o.sq (o.wh 5000 (o.eq (o.mod (o.va 0) (o.va 2)) (eC (.int (.ofNat 0)))) (o.sq (o.tus (o.rc (o.rv (o.f (o.div (o.va 0) (o.va 2)))) (o.rc (o.rv (o.f (o.add (o.va 3) (eC (.int (.ofNat 1)))))) rNil)) [0, 3]) sNil)) (o.sq (o.ap 1 (o.tp1 (o.lc (o.va 2) (o.lc (o.va 3) lNil)))) (o.sq (o.asg (o.f (o.ei (o.eq (o.va 2) (eC (.int (.ofNat 2)))) (eC (.int (.ofNat 3))) (o.add (o.va 2) (eC (.int (.ofNat 2)))))) (o.gn 2)) sNil))))) (o.sq (o.fz 1 (o.rt (o.va 1))) sNil)))
noncomputable def xm_prime_factors : Fs := (xSeq (xTpS (xRC (xRO (xLF (xLst lNil))) (xRC (xRV (eC (.int (.ofNat 2)))) rNil)) [pX2, pX1]) (xSeq (xWh 5000 (xGt vX0 (eC (.int (.ofNat 1)))) (xSeq (xTpS (xRC (xRV (xBL X_least_divisor (xLC vX0 (xLC vX2 lNil)))) (xRC (xRV (eC (.int (.ofNat 0)))) rNil)) [pX3, pX2]) (xSeq (xWh 5000 (xEq (xMod vX0 vX2) (eC (.int (.ofNat 0)))) (xSeq (xTpS (xRC (xRV (xF (xDiv vX0 vX2))) (xRC (xRV (xF (xAdd vX3 (eC (.int (.ofNat 1)))))) rNil)) [pX3, pX0]) sNil)) (xSeq (xApp lX1 pX1 (xTup (xLC vX2 (xLC vX3 lNil)))) (xSeq (xAsg (xF (xIf (xEq vX2 (eC (.int (.ofNat 2)))) (eC (.int (.ofNat 3))) (xAdd vX2 (eC (.int (.ofNat 2)))))) (xG pX2)) sNil))))) (xSeq (xFz lX1 pX1 (xRet vX1)) sNil)))
theorem xxm_prime_factors : m_prime_factors = xm_prime_factors := by
  have h1 : m_prime_factors = gm_prime_factors slowO F_least_divisor := by kernel_rfl
  have h2 : xm_prime_factors = gm_prime_factors fastO X_least_divisor := by kernel_rfl
  rw [h1, h2, ops_eq, FX_least_divisor]
noncomputable def X_prime_factors : List D → Option D := xBd xm_prime_factors ["n"] ["n", "found", "prime", "many"]
theorem FX_prime_factors : F_prime_factors = X_prime_factors := by
  have h1 : F_prime_factors = slowO.bd m_prime_factors ["n"] ["n", "found", "prime", "many"] := by kernel_rfl
  have h2 : X_prime_factors = fastO.bd xm_prime_factors ["n"] ["n", "found", "prime", "many"] := by kernel_rfl
  rw [h1, h2, ops_eq, xxm_prime_factors]
noncomputable def gm_mtrim (o : Ops)  : Fs := (o.sq (o.asg (o.len (o.bo 0)) (o.gn 1)) (o.sq (o.wh 5000 (tAnd (o.gt (o.va 1) (eC (.int (.ofNat 0)))) (o.eq (o.idx (o.bo 0) (o.sub (o.va 1) (eC (.int (.ofNat 1))))) (eC (.int (.ofNat 0))))) (o.sq (o.asg (o.f (o.sub (o.va 1) (eC (.int (.ofNat 1))))) (o.gn 1)) sNil)) (o.sq (o.rt (o.f (o.eo (o.blo fList (o.lc (o.eo (oSl (o.bo 0) none (some (o.va 1)))) lNil))))) sNil)))
noncomputable def xm_mtrim : Fs := (xSeq (xAsg (xLen bX0) (xG pX1)) (xSeq (xWh 5000 (tAnd (xGt vX1 (eC (.int (.ofNat 0)))) (xEq (xIdx bX0 (xSub vX1 (eC (.int (.ofNat 1))))) (eC (.int (.ofNat 0))))) (xSeq (xAsg (xF (xSub vX1 (eC (.int (.ofNat 1))))) (xG pX1)) sNil)) (xSeq (xRet (xF (xO (xBO fList (xLC (xO (oSl bX0 none (some vX1))) lNil))))) sNil)))
theorem xxm_mtrim : m_mtrim = xm_mtrim := by
  have h1 : m_mtrim = gm_mtrim slowO  := by kernel_rfl
  have h2 : xm_mtrim = gm_mtrim fastO  := by kernel_rfl
  rw [h1, h2, ops_eq]
noncomputable def X_mtrim : List D → Option D := xBd xm_mtrim ["a"] ["a", "many"]
theorem FX_mtrim : F_mtrim = X_mtrim := by
  have h1 : F_mtrim = slowO.bd m_mtrim ["a"] ["a", "many"] := by kernel_rfl
  have h2 : X_mtrim = fastO.bd xm_mtrim ["a"] ["a", "many"] := by kernel_rfl
  rw [h1, h2, ops_eq, xxm_mtrim]
noncomputable def gm_mdegree (o : Ops)  : Fs := (o.sq (o.rt (o.f (o.sub (o.len (o.bo 0)) (eC (.int (.ofNat 1)))))) sNil)
noncomputable def xm_mdegree : Fs := (xSeq (xRet (xF (xSub (xLen bX0) (eC (.int (.ofNat 1)))))) sNil)
theorem xxm_mdegree : m_mdegree = xm_mdegree := by
  have h1 : m_mdegree = gm_mdegree slowO  := by kernel_rfl
  have h2 : xm_mdegree = gm_mdegree fastO  := by kernel_rfl
  rw [h1, h2, ops_eq]
noncomputable def X_mdegree : List D → Option D := xBd xm_mdegree ["a"] ["a"]
theorem FX_mdegree : F_mdegree = X_mdegree := by
  have h1 : F_mdegree = slowO.bd m_mdegree ["a"] ["a"] := by kernel_rfl
  have h2 : X_mdegree = fastO.bd xm_mdegree ["a"] ["a"] := by kernel_rfl
  rw [h1, h2, ops_eq, xxm_mdegree]
noncomputable def gm_mlead (o : Ops)  : Fs := (o.sq (o.rt (o.f (o.ei (o.gt (o.len (o.bo 0)) (eC (.int (.ofNat 0)))) (o.idx (o.bo 0) (o.b1 dNeg (eC (.int (.ofNat 1))))) (eC (.int (.ofNat 0)))))) sNil)
noncomputable def xm_mlead : Fs := (xSeq (xRet (xF (xIf (xGt (xLen bX0) (eC (.int (.ofNat 0)))) (xIdx bX0 (x1 dNeg (eC (.int (.ofNat 1))))) (eC (.int (.ofNat 0)))))) sNil)
theorem xxm_mlead : m_mlead = xm_mlead := by
  have h1 : m_mlead = gm_mlead slowO  := by kernel_rfl
  have h2 : xm_mlead = gm_mlead fastO  := by kernel_rfl
  rw [h1, h2, ops_eq]
noncomputable def X_mlead : List D → Option D := xBd xm_mlead ["a"] ["a"]
theorem FX_mlead : F_mlead = X_mlead := by
  have h1 : F_mlead = slowO.bd m_mlead ["a"] ["a"] := by kernel_rfl
  have h2 : X_mlead = fastO.bd xm_mlead ["a"] ["a"] := by kernel_rfl
  rw [h1, h2, ops_eq, xxm_mlead]
noncomputable def gm_madd (o : Ops) (f_mtrim : List D → Option D) : Fs := (o.sq (o.ao (o.lf (o.lst lNil)) 3) (o.sq (o.fo (o.rng (o.lc (o.max (o.len (o.bo 0)) (o.len (o.bo 1))) lNil)) (o.gn 4) (o.sq (o.ap 3 (o.mod (o.add (o.ei (o.lt (o.va 4) (o.len (o.bo 0))) (o.idx (o.bo 0) (o.va 4)) (eC (.int (.ofNat 0)))) (o.ei (o.lt (o.va 4) (o.len (o.bo 1))) (o.idx (o.bo 1) (o.va 4)) (eC (.int (.ofNat 0))))) (o.va 2))) sNil)) (o.sq (o.fz 3 (o.rt (o.bl f_mtrim (o.lc (o.va 3) lNil)))) sNil)))
noncomputable def xm_madd : Fs := (xSeq (xAO (xLF (xLst lNil)) pX3) (xSeq (xFor (xLF (xBO fRangeX (xLC (xMax (xLen bX0) (xLen bX1)) lNil))) (xG pX4) (xSeq (xApp lX3 pX3 (xMod (xAdd (xIf (xLt vX4 (xLen bX0)) (xIdx bX0 vX4) (eC (.int (.ofNat 0)))) (xIf (xLt vX4 (xLen bX1)) (xIdx bX1 vX4) (eC (.int (.ofNat 0))))) vX2)) sNil)) (xSeq (xFz lX3 pX3 (xRet (xBL X_mtrim (xLC vX3 lNil)))) sNil)))
theorem xxm_madd : m_madd = xm_madd := by
  have h1 : m_madd = gm_madd slowO F_mtrim := by kernel_rfl
  have h2 : xm_madd = gm_madd fastO X_mtrim := by kernel_rfl
  rw [h1, h2, ops_eq, FX_mtrim]
noncomputable def X_madd : List D → Option D := xBd xm_madd ["a", "b", "p"] ["a", "b", "p", "found", "at"]
theorem FX_madd : F_madd = X_madd := by
  have h1 : F_madd = slowO.bd m_madd ["a", "b", "p"] ["a", "b", "p", "found", "at"] := by kernel_rfl
  have h2 : X_madd = fastO.bd xm_madd ["a", "b", "p"] ["a", "b", "p", "found", "at"] := by kernel_rfl
  rw [h1, h2, ops_eq, xxm_madd]
noncomputable def gm_mneg (o : Ops)  : Fs := (o.sq (o.rt (o.f (o.eo (o.cm (o.il (o.va 0)) 1 [1] (o.gn 0) (fun _ => some true) (o.ke (o.f (o.mod (o.b1 dNeg (o.va 0)) (o.va 1)))))))) sNil)
noncomputable def xm_mneg : Fs := (xSeq (xRet (xF (xO (xCm (xIL vX0) 1 [lX1] (xG pX0) (fun _ => some true) (xKE (xF (xMod (x1 dNeg vX0) vX1))))))) sNil)
theorem xxm_mneg : m_mneg = xm_mneg := by
  have h1 : m_mneg = gm_mneg slowO  := by kernel_rfl
  have h2 : xm_mneg = gm_mneg fastO  := by kernel_rfl
  rw [h1, h2, ops_eq]
noncomputable def X_mneg : List D → Option D := xBd xm_mneg ["a", "p"] ["a", "p"]
theorem FX_mneg : F_mneg = X_mneg := by
  have h1 : F_mneg = slowO.bd m_mneg ["a", "p"] ["a", "p"] := by kernel_rfl
  have h2 : X_mneg = fastO.bd xm_mneg ["a", "p"] ["a", "p"] := by kernel_rfl
  rw [h1, h2, ops_eq, xxm_mneg]
noncomputable def gm_msub (o : Ops) (f_madd : List D → Option D) (f_mneg : List D → Option D) : Fs := (o.sq (o.rt (o.bl f_madd (o.lc (o.va 0) (o.lc (o.bl f_mneg (o.lc (o.va 1) (o.lc (o.va 2) lNil))) (o.lc (o.va 2) lNil))))) sNil)
noncomputable def xm_msub : Fs := (xSeq (xRet (xBL X_madd (xLC vX0 (xLC (xBL X_mneg (xLC vX1 (xLC vX2 lNil))) (xLC vX2 lNil))))) sNil)
theorem xxm_msub : m_msub = xm_msub := by
  have h1 : m_msub = gm_msub slowO F_madd F_mneg := by kernel_rfl
  have h2 : xm_msub = gm_msub fastO X_madd X_mneg := by kernel_rfl
  rw [h1, h2, ops_eq, FX_madd, FX_mneg]
noncomputable def X_msub : List D → Option D := xBd xm_msub ["a", "b", "p"] ["a", "b", "p"]
theorem FX_msub : F_msub = X_msub := by
  have h1 : F_msub = slowO.bd m_msub ["a", "b", "p"] ["a", "b", "p"] := by kernel_rfl
  have h2 : X_msub = fastO.bd xm_msub ["a", "b", "p"] ["a", "b", "p"] := by kernel_rfl
  rw [h1, h2, ops_eq, xxm_msub]
noncomputable def gm_mscale (o : Ops) (f_mtrim : List D → Option D) : Fs := (o.sq (o.rt (o.bl f_mtrim (o.lc (o.eo (o.cm (o.il (o.va 0)) 1 [1, 2] (o.gn 0) (fun _ => some true) (o.ke (o.f (o.mod (o.mul (o.va 0) (o.va 1)) (o.va 2)))))) lNil))) sNil)
noncomputable def xm_mscale : Fs := (xSeq (xRet (xBL X_mtrim (xLC (xO (xCm (xIL vX0) 1 [lX1, lX2] (xG pX0) (fun _ => some true) (xKE (xF (xMod (xMul vX0 vX1) vX2))))) lNil))) sNil)
theorem xxm_mscale : m_mscale = xm_mscale := by
  have h1 : m_mscale = gm_mscale slowO F_mtrim := by kernel_rfl
  have h2 : xm_mscale = gm_mscale fastO X_mtrim := by kernel_rfl
  rw [h1, h2, ops_eq, FX_mtrim]
noncomputable def X_mscale : List D → Option D := xBd xm_mscale ["a", "number", "p"] ["a", "number", "p"]
theorem FX_mscale : F_mscale = X_mscale := by
  have h1 : F_mscale = slowO.bd m_mscale ["a", "number", "p"] ["a", "number", "p"] := by kernel_rfl
  have h2 : X_mscale = fastO.bd xm_mscale ["a", "number", "p"] ["a", "number", "p"] := by kernel_rfl
  rw [h1, h2, ops_eq, xxm_mscale]
noncomputable def gm_mmul (o : Ops) (f_mtrim : List D → Option D) : Fs := (o.sq (o.si (tOr (o.eq (o.len (o.bo 0)) (eC (.int (.ofNat 0)))) (o.eq (o.len (o.bo 1)) (eC (.int (.ofNat 0))))) (o.sq (o.rt (o.f (o.eo (o.lst lNil)))) sNil) sNil) (o.sq (o.ao (o.lf (oRep (o.eo (o.lst (o.lc (eC (.int (.ofNat 0))) lNil))) (o.sub (o.add (o.len (o.bo 0)) (o.len (o.bo 1))) (eC (.int (.ofNat 1)))))) 3) (o.sq (o.fo (o.en (o.va 0)) (o.gtp [4, 5]) (o.sq (o.si (o.ne (o.va 5) (eC (.int (.ofNat 0)))) (o.sq (o.fo (o.en (o.va 1)) (o.gtp [6, 7]) (o.sq (o.st 3 (o.add (o.va 4) (o.va 6)) (o.mod (o.add (o.idx (o.bo 3) (o.add (o.va 4) (o.va 6))) (o.mul (o.va 5) (o.va 7))) (o.va 2))) sNil)) sNil) sNil) sNil)) (o.sq (o.fz 3 (o.rt (o.bl f_mtrim (o.lc (o.va 3) lNil)))) sNil))))
noncomputable def xm_mmul : Fs := (xSeq (xSI (tOr (xEq (xLen bX0) (eC (.int (.ofNat 0)))) (xEq (xLen bX1) (eC (.int (.ofNat 0))))) (xSeq (xRet (xF (xO (xLst lNil)))) sNil) sNil) (xSeq (xAO (xLF (oRep (xO (xLst (xLC (eC (.int (.ofNat 0))) lNil))) (xSub (xAdd (xLen bX0) (xLen bX1)) (eC (.int (.ofNat 1)))))) pX3) (xSeq (xFor (xEn vX0) (xGT [pX4, pX5]) (xSeq (xSI (xNe vX5 (eC (.int (.ofNat 0)))) (xSeq (xFor (xEn vX1) (xGT [pX6, pX7]) (xSeq (xSet lX3 pX3 (xAdd vX4 vX6) (xMod (xAdd (xIdx bX3 (xAdd vX4 vX6)) (xMul vX5 vX7)) vX2)) sNil)) sNil) sNil) sNil)) (xSeq (xFz lX3 pX3 (xRet (xBL X_mtrim (xLC vX3 lNil)))) sNil))))
theorem xxm_mmul : m_mmul = xm_mmul := by
  have h1 : m_mmul = gm_mmul slowO F_mtrim := by kernel_rfl
  have h2 : xm_mmul = gm_mmul fastO X_mtrim := by kernel_rfl
  rw [h1, h2, ops_eq, FX_mtrim]
noncomputable def X_mmul : List D → Option D := xBd xm_mmul ["a", "b", "p"] ["a", "b", "p", "found", "at", "one", "spot", "other"]
theorem FX_mmul : F_mmul = X_mmul := by
  have h1 : F_mmul = slowO.bd m_mmul ["a", "b", "p"] ["a", "b", "p", "found", "at", "one", "spot", "other"] := by kernel_rfl
  have h2 : X_mmul = fastO.bd xm_mmul ["a", "b", "p"] ["a", "b", "p", "found", "at", "one", "spot", "other"] := by kernel_rfl
  rw [h1, h2, ops_eq, xxm_mmul]
noncomputable def gm_mdivmod (o : Ops) (f_inverse_mod : List D → Option D) (f_mtrim : List D → Option D) : Fs := (o.sq (o.tus (o.rc (o.ro (o.lf (o.blo fList (o.lc (o.bo 0) lNil)))) (o.rc (o.ro (o.lf (oRep (o.eo (o.lst (o.lc (eC (.int (.ofNat 0))) lNil))) (o.max (eC (.int (.ofNat 0))) (o.add (o.sub (o.len (o.bo 0)) (o.len (o.bo 1))) (eC (.int (.ofNat 1)))))))) rNil)) [3, 4]) (o.sq (o.asg (o.bl f_inverse_mod (o.lc (o.idx (o.bo 1) (o.b1 dNeg (eC (.int (.ofNat 1))))) (o.lc (o.va 2) lNil))) (o.gn 5)) (o.sq (o.fo (o.rng (o.lc (o.sub (o.len (o.bo 0)) (o.len (o.bo 1))) (o.lc (o.b1 dNeg (eC (.int (.ofNat 1)))) (o.lc (o.b1 dNeg (eC (.int (.ofNat 1)))) lNil)))) (o.gn 6) (o.sq (o.asg (o.f (o.mod (o.mul (o.idx (o.bo 3) (o.sub (o.add (o.va 6) (o.len (o.bo 1))) (eC (.int (.ofNat 1))))) (o.va 5)) (o.va 2))) (o.gn 7)) (o.sq (o.st 4 (o.va 6) (o.va 7)) (o.sq (o.si (o.ne (o.va 7) (eC (.int (.ofNat 0)))) (o.sq (o.fo (o.en (o.va 1)) (o.gtp [8, 9]) (o.sq (o.st 3 (o.add (o.va 6) (o.va 8)) (o.mod (o.sub (o.idx (o.bo 3) (o.add (o.va 6) (o.va 8))) (o.mul (o.va 7) (o.va 9))) (o.va 2))) sNil)) sNil) sNil) sNil)))) (o.sq (o.fz 4 (o.rt (o.f (o.tp1 (o.lc (o.bl f_mtrim (o.lc (o.va 4) lNil)) (o.lc (o.bl f_mtrim (o.lc (o.eo (oSl (o.bo 3) none (some (o.sub (o.len (o.bo 1)) (eC (.int (.ofNat 1))))))) lNil)) lNil)))))) sNil))))
noncomputable def xm_mdivmod : Fs := (xSeq (xTpS (xRC (xRO (xLF (xBO fList (xLC bX0 lNil)))) (xRC (xRO (xLF (oRep (xO (xLst (xLC (eC (.int (.ofNat 0))) lNil))) (xMax (eC (.int (.ofNat 0))) (xAdd (xSub (xLen bX0) (xLen bX1)) (eC (.int (.ofNat 1)))))))) rNil)) [pX4, pX3]) (xSeq (xAsg (xBL X_inverse_mod (xLC (xIdx bX1 (x1 dNeg (eC (.int (.ofNat 1))))) (xLC vX2 lNil))) (xG pX5)) (xSeq (xFor (xLF (xBO fRangeX (xLC (xSub (xLen bX0) (xLen bX1)) (xLC (x1 dNeg (eC (.int (.ofNat 1)))) (xLC (x1 dNeg (eC (.int (.ofNat 1)))) lNil))))) (xG pX6) (xSeq (xAsg (xF (xMod (xMul (xIdx bX3 (xSub (xAdd vX6 (xLen bX1)) (eC (.int (.ofNat 1))))) vX5) vX2)) (xG pX7)) (xSeq (xSet lX4 pX4 vX6 vX7) (xSeq (xSI (xNe vX7 (eC (.int (.ofNat 0)))) (xSeq (xFor (xEn vX1) (xGT [pX8, pX9]) (xSeq (xSet lX3 pX3 (xAdd vX6 vX8) (xMod (xSub (xIdx bX3 (xAdd vX6 vX8)) (xMul vX7 vX9)) vX2)) sNil)) sNil) sNil) sNil)))) (xSeq (xFz lX4 pX4 (xRet (xF (xTup (xLC (xBL X_mtrim (xLC vX4 lNil)) (xLC (xBL X_mtrim (xLC (xO (oSl bX3 none (some (xSub (xLen bX1) (eC (.int (.ofNat 1))))))) lNil)) lNil)))))) sNil))))
theorem xxm_mdivmod : m_mdivmod = xm_mdivmod := by
  have h1 : m_mdivmod = gm_mdivmod slowO F_inverse_mod F_mtrim := by kernel_rfl
  have h2 : xm_mdivmod = gm_mdivmod fastO X_inverse_mod X_mtrim := by kernel_rfl
  rw [h1, h2, ops_eq, FX_inverse_mod, FX_mtrim]
noncomputable def X_mdivmod : List D → Option D := xBd xm_mdivmod ["a", "b", "p"] ["a", "b", "p", "rest", "quotient", "turn", "at", "number", "spot", "other"]
theorem FX_mdivmod : F_mdivmod = X_mdivmod := by
  have h1 : F_mdivmod = slowO.bd m_mdivmod ["a", "b", "p"] ["a", "b", "p", "rest", "quotient", "turn", "at", "number", "spot", "other"] := by kernel_rfl
  have h2 : X_mdivmod = fastO.bd xm_mdivmod ["a", "b", "p"] ["a", "b", "p", "rest", "quotient", "turn", "at", "number", "spot", "other"] := by kernel_rfl
  rw [h1, h2, ops_eq, xxm_mdivmod]
noncomputable def gm_mrest (o : Ops) (f_mdivmod : List D → Option D) : Fs := (o.sq (o.rt (o.f (o.idx (o.bl f_mdivmod (o.lc (o.va 0) (o.lc (o.va 1) (o.lc (o.va 2) lNil)))) (eC (.int (.ofNat 1)))))) sNil)
noncomputable def xm_mrest : Fs := (xSeq (xRet (xF (xIdx (xBL X_mdivmod (xLC vX0 (xLC vX1 (xLC vX2 lNil)))) (eC (.int (.ofNat 1)))))) sNil)
theorem xxm_mrest : m_mrest = xm_mrest := by
  have h1 : m_mrest = gm_mrest slowO F_mdivmod := by kernel_rfl
  have h2 : xm_mrest = gm_mrest fastO X_mdivmod := by kernel_rfl
  rw [h1, h2, ops_eq, FX_mdivmod]
noncomputable def X_mrest : List D → Option D := xBd xm_mrest ["a", "b", "p"] ["a", "b", "p"]
theorem FX_mrest : F_mrest = X_mrest := by
  have h1 : F_mrest = slowO.bd m_mrest ["a", "b", "p"] ["a", "b", "p"] := by kernel_rfl
  have h2 : X_mrest = fastO.bd xm_mrest ["a", "b", "p"] ["a", "b", "p"] := by kernel_rfl
  rw [h1, h2, ops_eq, xxm_mrest]
noncomputable def gm_mquotient (o : Ops) (f_mdivmod : List D → Option D) : Fs := (o.sq (o.rt (o.f (o.idx (o.bl f_mdivmod (o.lc (o.va 0) (o.lc (o.va 1) (o.lc (o.va 2) lNil)))) (eC (.int (.ofNat 0)))))) sNil)
noncomputable def xm_mquotient : Fs := (xSeq (xRet (xF (xIdx (xBL X_mdivmod (xLC vX0 (xLC vX1 (xLC vX2 lNil)))) (eC (.int (.ofNat 0)))))) sNil)
theorem xxm_mquotient : m_mquotient = xm_mquotient := by
  have h1 : m_mquotient = gm_mquotient slowO F_mdivmod := by kernel_rfl
  have h2 : xm_mquotient = gm_mquotient fastO X_mdivmod := by kernel_rfl
  rw [h1, h2, ops_eq, FX_mdivmod]
noncomputable def X_mquotient : List D → Option D := xBd xm_mquotient ["a", "b", "p"] ["a", "b", "p"]
theorem FX_mquotient : F_mquotient = X_mquotient := by
  have h1 : F_mquotient = slowO.bd m_mquotient ["a", "b", "p"] ["a", "b", "p"] := by kernel_rfl
  have h2 : X_mquotient = fastO.bd xm_mquotient ["a", "b", "p"] ["a", "b", "p"] := by kernel_rfl
  rw [h1, h2, ops_eq, xxm_mquotient]
noncomputable def gm_mmonic (o : Ops) (f_mscale : List D → Option D) (f_inverse_mod : List D → Option D) : Fs := (o.sq (o.rt (o.f (o.ei (o.gt (o.len (o.bo 0)) (eC (.int (.ofNat 0)))) (o.bl f_mscale (o.lc (o.va 0) (o.lc (o.bl f_inverse_mod (o.lc (o.idx (o.bo 0) (o.b1 dNeg (eC (.int (.ofNat 1))))) (o.lc (o.va 1) lNil))) (o.lc (o.va 1) lNil)))) (o.eo (o.lst lNil))))) sNil)
noncomputable def xm_mmonic : Fs := (xSeq (xRet (xF (xIf (xGt (xLen bX0) (eC (.int (.ofNat 0)))) (xBL X_mscale (xLC vX0 (xLC (xBL X_inverse_mod (xLC (xIdx bX0 (x1 dNeg (eC (.int (.ofNat 1))))) (xLC vX1 lNil))) (xLC vX1 lNil)))) (xO (xLst lNil))))) sNil)
theorem xxm_mmonic : m_mmonic = xm_mmonic := by
  have h1 : m_mmonic = gm_mmonic slowO F_mscale F_inverse_mod := by kernel_rfl
  have h2 : xm_mmonic = gm_mmonic fastO X_mscale X_inverse_mod := by kernel_rfl
  rw [h1, h2, ops_eq, FX_mscale, FX_inverse_mod]
noncomputable def X_mmonic : List D → Option D := xBd xm_mmonic ["a", "p"] ["a", "p"]
theorem FX_mmonic : F_mmonic = X_mmonic := by
  have h1 : F_mmonic = slowO.bd m_mmonic ["a", "p"] ["a", "p"] := by kernel_rfl
  have h2 : X_mmonic = fastO.bd xm_mmonic ["a", "p"] ["a", "p"] := by kernel_rfl
  rw [h1, h2, ops_eq, xxm_mmonic]
noncomputable def gm_mderive (o : Ops) (f_mtrim : List D → Option D) : Fs := (o.sq (o.rt (o.bl f_mtrim (o.lc (o.eo (oSl (o.eo (o.cm (o.en (o.va 0)) 2 [1] (o.gtp [0, 1]) (fun _ => some true) (o.ke (o.f (o.mod (o.mul (o.va 0) (o.va 1)) (o.va 2)))))) (some (eC (.int (.ofNat 1)))) none)) lNil))) sNil)
noncomputable def xm_mderive : Fs := (xSeq (xRet (xBL X_mtrim (xLC (xO (oSl (xO (xCm (xEn vX0) 2 [lX1] (xGT [pX0, pX1]) (fun _ => some true) (xKE (xF (xMod (xMul vX0 vX1) vX2))))) (some (eC (.int (.ofNat 1)))) none)) lNil))) sNil)
theorem xxm_mderive : m_mderive = xm_mderive := by
  have h1 : m_mderive = gm_mderive slowO F_mtrim := by kernel_rfl
  have h2 : xm_mderive = gm_mderive fastO X_mtrim := by kernel_rfl
  rw [h1, h2, ops_eq, FX_mtrim]
noncomputable def X_mderive : List D → Option D := xBd xm_mderive ["a", "p"] ["a", "p"]
theorem FX_mderive : F_mderive = X_mderive := by
  have h1 : F_mderive = slowO.bd m_mderive ["a", "p"] ["a", "p"] := by kernel_rfl
  have h2 : X_mderive = fastO.bd xm_mderive ["a", "p"] ["a", "p"] := by kernel_rfl
  rw [h1, h2, ops_eq, xxm_mderive]
noncomputable def gm_mpower_mod (o : Ops) (f_mrest : List D → Option D) (f_mmul : List D → Option D) : Fs := (o.sq (o.tus (o.rc (o.rv (o.bl f_mrest (o.lc (o.eo (o.lst (o.lc (eC (.int (.ofNat 1))) lNil))) (o.lc (o.va 2) (o.lc (o.va 3) lNil))))) (o.rc (o.rv (o.bl f_mrest (o.lc (o.va 0) (o.lc (o.va 2) (o.lc (o.va 3) lNil))))) rNil)) [4, 5]) (o.sq (o.wh 5000 (o.gt (o.va 1) (eC (.int (.ofNat 0)))) (o.sq (o.si (o.eq (o.mod (o.va 1) (eC (.int (.ofNat 2)))) (eC (.int (.ofNat 1)))) (o.sq (o.asg (o.bl f_mrest (o.lc (o.bl f_mmul (o.lc (o.va 4) (o.lc (o.va 5) (o.lc (o.va 3) lNil)))) (o.lc (o.va 2) (o.lc (o.va 3) lNil)))) (o.gn 4)) sNil) sNil) (o.sq (o.asg (o.f (o.div (o.va 1) (eC (.int (.ofNat 2))))) (o.gn 1)) (o.sq (o.si (o.gt (o.va 1) (eC (.int (.ofNat 0)))) (o.sq (o.asg (o.bl f_mrest (o.lc (o.bl f_mmul (o.lc (o.va 5) (o.lc (o.va 5) (o.lc (o.va 3) lNil)))) (o.lc (o.va 2) (o.lc (o.va 3) lNil)))) (o.gn 5)) sNil) sNil) sNil)))) (o.sq (o.rt (o.va 4)) sNil)))
noncomputable def xm_mpower_mod : Fs := (xSeq (xTpS (xRC (xRV (xBL X_mrest (xLC (xO (xLst (xLC (eC (.int (.ofNat 1))) lNil))) (xLC vX2 (xLC vX3 lNil))))) (xRC (xRV (xBL X_mrest (xLC vX0 (xLC vX2 (xLC vX3 lNil))))) rNil)) [pX5, pX4]) (xSeq (xWh 5000 (xGt vX1 (eC (.int (.ofNat 0)))) (xSeq (xSI (xEq (xMod vX1 (eC (.int (.ofNat 2)))) (eC (.int (.ofNat 1)))) (xSeq (xAsg (xBL X_mrest (xLC (xBL X_mmul (xLC vX4 (xLC vX5 (xLC vX3 lNil)))) (xLC vX2 (xLC vX3 lNil)))) (xG pX4)) sNil) sNil) (xSeq (xAsg (xF (xDiv vX1 (eC (.int (.ofNat 2))))) (xG pX1)) (xSeq (xSI (xGt vX1 (eC (.int (.ofNat 0)))) (xSeq (xAsg (xBL X_mrest (xLC (xBL X_mmul (xLC vX5 (xLC vX5 (xLC vX3 lNil)))) (xLC vX2 (xLC vX3 lNil)))) (xG pX5)) sNil) sNil) sNil)))) (xSeq (xRet vX4) sNil)))
theorem xxm_mpower_mod : m_mpower_mod = xm_mpower_mod := by
  have h1 : m_mpower_mod = gm_mpower_mod slowO F_mrest F_mmul := by kernel_rfl
  have h2 : xm_mpower_mod = gm_mpower_mod fastO X_mrest X_mmul := by kernel_rfl
  rw [h1, h2, ops_eq, FX_mrest, FX_mmul]
noncomputable def X_mpower_mod : List D → Option D := xBd xm_mpower_mod ["a", "n", "f", "p"] ["a", "n", "f", "p", "found", "square"]
theorem FX_mpower_mod : F_mpower_mod = X_mpower_mod := by
  have h1 : F_mpower_mod = slowO.bd m_mpower_mod ["a", "n", "f", "p"] ["a", "n", "f", "p", "found", "square"] := by kernel_rfl
  have h2 : X_mpower_mod = fastO.bd xm_mpower_mod ["a", "n", "f", "p"] ["a", "n", "f", "p", "found", "square"] := by kernel_rfl
  rw [h1, h2, ops_eq, xxm_mpower_mod]
noncomputable def gm_mproduct (o : Ops) (f_mmul : List D → Option D) : Fs := (o.sq (o.asg (o.f (o.eo (o.lst (o.lc (eC (.int (.ofNat 1))) lNil)))) (o.gn 2)) (o.sq (o.fo (o.il (o.va 0)) (o.gn 3) (o.sq (o.asg (o.bl f_mmul (o.lc (o.va 2) (o.lc (o.va 3) (o.lc (o.va 1) lNil)))) (o.gn 2)) sNil)) (o.sq (o.rt (o.va 2)) sNil)))
noncomputable def xm_mproduct : Fs := (xSeq (xAsg (xF (xO (xLst (xLC (eC (.int (.ofNat 1))) lNil)))) (xG pX2)) (xSeq (xFor (xIL vX0) (xG pX3) (xSeq (xAsg (xBL X_mmul (xLC vX2 (xLC vX3 (xLC vX1 lNil)))) (xG pX2)) sNil)) (xSeq (xRet vX2) sNil)))
theorem xxm_mproduct : m_mproduct = xm_mproduct := by
  have h1 : m_mproduct = gm_mproduct slowO F_mmul := by kernel_rfl
  have h2 : xm_mproduct = gm_mproduct fastO X_mmul := by kernel_rfl
  rw [h1, h2, ops_eq, FX_mmul]
noncomputable def X_mproduct : List D → Option D := xBd xm_mproduct ["some", "p"] ["some", "p", "found", "one"]
theorem FX_mproduct : F_mproduct = X_mproduct := by
  have h1 : F_mproduct = slowO.bd m_mproduct ["some", "p"] ["some", "p", "found", "one"] := by kernel_rfl
  have h2 : X_mproduct = fastO.bd xm_mproduct ["some", "p"] ["some", "p", "found", "one"] := by kernel_rfl
  rw [h1, h2, ops_eq, xxm_mproduct]
noncomputable def gm_morder (o : Ops)  : Fs := (o.sq (o.rt (o.f (o.tp1 (o.lc (o.len (o.bo 0)) (o.lc (o.eo (o.rev (o.bo 0))) lNil))))) sNil)
noncomputable def xm_morder : Fs := (xSeq (xRet (xF (xTup (xLC (xLen bX0) (xLC (xO (xRev bX0)) lNil))))) sNil)
theorem xxm_morder : m_morder = xm_morder := by
  have h1 : m_morder = gm_morder slowO  := by kernel_rfl
  have h2 : xm_morder = gm_morder fastO  := by kernel_rfl
  rw [h1, h2, ops_eq]
noncomputable def X_morder : List D → Option D := xBd xm_morder ["a"] ["a"]
theorem FX_morder : F_morder = X_morder := by
  have h1 : F_morder = slowO.bd m_morder ["a"] ["a"] := by kernel_rfl
  have h2 : X_morder = fastO.bd xm_morder ["a"] ["a"] := by kernel_rfl
  rw [h1, h2, ops_eq, xxm_morder]
noncomputable def gm_mroot (o : Ops)  : Fs := (o.sq (o.rt (o.f (o.eo (o.cm (o.rng (o.lc (eC (.int (.ofNat 0))) (o.lc (o.len (o.bo 0)) (o.lc (o.va 1) lNil)))) 1 [0] (o.gn 0) (fun _ => some true) (o.ke (o.f (o.idx (o.bo 1) (o.va 0)))))))) sNil)
noncomputable def xm_mroot : Fs := (xSeq (xRet (xF (xO (xCm (xLF (xBO fRangeX (xLC (eC (.int (.ofNat 0))) (xLC (xLen bX0) (xLC vX1 lNil))))) 1 [lX0] (xG pX0) (fun _ => some true) (xKE (xF (xIdx bX1 vX0))))))) sNil)
theorem xxm_mroot : m_mroot = xm_mroot := by
  have h1 : m_mroot = gm_mroot slowO  := by kernel_rfl
  have h2 : xm_mroot = gm_mroot fastO  := by kernel_rfl
  rw [h1, h2, ops_eq]
noncomputable def X_mroot : List D → Option D := xBd xm_mroot ["a", "p"] ["a", "p"]
theorem FX_mroot : F_mroot = X_mroot := by
  have h1 : F_mroot = slowO.bd m_mroot ["a", "p"] ["a", "p"] := by kernel_rfl
  have h2 : X_mroot = fastO.bd xm_mroot ["a", "p"] ["a", "p"] := by kernel_rfl
  rw [h1, h2, ops_eq, xxm_mroot]
noncomputable def gm_mgcd (o : Ops) (f_mrest : List D → Option D) (f_mmonic : List D → Option D) : Fs := (o.sq (o.wh 5000 (o.gt (o.len (o.bo 1)) (eC (.int (.ofNat 0)))) (o.sq (o.tus (o.rc (o.rv (o.va 1)) (o.rc (o.rv (o.bl f_mrest (o.lc (o.va 0) (o.lc (o.va 1) (o.lc (o.va 2) lNil))))) rNil)) [0, 1]) sNil)) (o.sq (o.rt (o.bl f_mmonic (o.lc (o.va 0) (o.lc (o.va 2) lNil)))) sNil))
noncomputable def xm_mgcd : Fs := (xSeq (xWh 5000 (xGt (xLen bX1) (eC (.int (.ofNat 0)))) (xSeq (xTpS (xRC (xRV vX1) (xRC (xRV (xBL X_mrest (xLC vX0 (xLC vX1 (xLC vX2 lNil))))) rNil)) [pX1, pX0]) sNil)) (xSeq (xRet (xBL X_mmonic (xLC vX0 (xLC vX2 lNil)))) sNil))
theorem xxm_mgcd : m_mgcd = xm_mgcd := by
  have h1 : m_mgcd = gm_mgcd slowO F_mrest F_mmonic := by kernel_rfl
  have h2 : xm_mgcd = gm_mgcd fastO X_mrest X_mmonic := by kernel_rfl
  rw [h1, h2, ops_eq, FX_mrest, FX_mmonic]
noncomputable def X_mgcd : List D → Option D := xBd xm_mgcd ["a", "b", "p"] ["a", "b", "p"]
theorem FX_mgcd : F_mgcd = X_mgcd := by
  have h1 : F_mgcd = slowO.bd m_mgcd ["a", "b", "p"] ["a", "b", "p"] := by kernel_rfl
  have h2 : X_mgcd = fastO.bd xm_mgcd ["a", "b", "p"] ["a", "b", "p"] := by kernel_rfl
  rw [h1, h2, ops_eq, xxm_mgcd]
noncomputable def gm_parts_once (o : Ops) (f_mgcd : List D → Option D) (f_mderive : List D → Option D) (f_mquotient : List D → Option D) (f_mdegree : List D → Option D) : Fs := (o.sq (o.tus (o.rc (o.ro (o.lf (o.lst lNil))) (o.rc (o.rv (o.va 1)) rNil)) [3, 4]) (o.sq (o.asg (o.bl f_mgcd (o.lc (o.va 0) (o.lc (o.bl f_mderive (o.lc (o.va 0) (o.lc (o.va 2) lNil))) (o.lc (o.va 2) lNil)))) (o.gn 5)) (o.sq (o.asg (o.bl f_mquotient (o.lc (o.va 0) (o.lc (o.va 5) (o.lc (o.va 2) lNil)))) (o.gn 6)) (o.sq (o.wh 5000 (o.gt (o.bl f_mdegree (o.lc (o.va 6) lNil)) (eC (.int (.ofNat 0)))) (o.sq (o.asg (o.bl f_mgcd (o.lc (o.va 6) (o.lc (o.va 5) (o.lc (o.va 2) lNil)))) (o.gn 7)) (o.sq (o.asg (o.bl f_mquotient (o.lc (o.va 6) (o.lc (o.va 7) (o.lc (o.va 2) lNil)))) (o.gn 8)) (o.sq (o.si (o.gt (o.bl f_mdegree (o.lc (o.va 8) lNil)) (eC (.int (.ofNat 0)))) (o.sq (o.ap 3 (o.tp1 (o.lc (o.va 8) (o.lc (o.va 4) lNil)))) sNil) sNil) (o.sq (o.tus (o.rc (o.rv (o.va 7)) (o.rc (o.rv (o.bl f_mquotient (o.lc (o.va 5) (o.lc (o.va 7) (o.lc (o.va 2) lNil))))) (o.rc (o.rv (o.f (o.add (o.va 4) (o.va 1)))) rNil))) [6, 5, 4]) sNil))))) (o.sq (o.fz 3 (o.rt (o.f (o.tp1 (o.lc (o.va 3) (o.lc (o.va 5) lNil)))))) sNil)))))
noncomputable def xm_parts_once : Fs := (xSeq (xTpS (xRC (xRO (xLF (xLst lNil))) (xRC (xRV vX1) rNil)) [pX4, pX3]) (xSeq (xAsg (xBL X_mgcd (xLC vX0 (xLC (xBL X_mderive (xLC vX0 (xLC vX2 lNil))) (xLC vX2 lNil)))) (xG pX5)) (xSeq (xAsg (xBL X_mquotient (xLC vX0 (xLC vX5 (xLC vX2 lNil)))) (xG pX6)) (xSeq (xWh 5000 (xGt (xBL X_mdegree (xLC vX6 lNil)) (eC (.int (.ofNat 0)))) (xSeq (xAsg (xBL X_mgcd (xLC vX6 (xLC vX5 (xLC vX2 lNil)))) (xG pX7)) (xSeq (xAsg (xBL X_mquotient (xLC vX6 (xLC vX7 (xLC vX2 lNil)))) (xG pX8)) (xSeq (xSI (xGt (xBL X_mdegree (xLC vX8 lNil)) (eC (.int (.ofNat 0)))) (xSeq (xApp lX3 pX3 (xTup (xLC vX8 (xLC vX4 lNil)))) sNil) sNil) (xSeq (xTpS (xRC (xRV vX7) (xRC (xRV (xBL X_mquotient (xLC vX5 (xLC vX7 (xLC vX2 lNil))))) (xRC (xRV (xF (xAdd vX4 vX1))) rNil))) [pX4, pX5, pX6]) sNil))))) (xSeq (xFz lX3 pX3 (xRet (xF (xTup (xLC vX3 (xLC vX5 lNil)))))) sNil)))))
theorem xxm_parts_once : m_parts_once = xm_parts_once := by
  have h1 : m_parts_once = gm_parts_once slowO F_mgcd F_mderive F_mquotient F_mdegree := by kernel_rfl
  have h2 : xm_parts_once = gm_parts_once fastO X_mgcd X_mderive X_mquotient X_mdegree := by kernel_rfl
  rw [h1, h2, ops_eq, FX_mgcd, FX_mderive, FX_mquotient, FX_mdegree]
noncomputable def X_parts_once : List D → Option D := xBd xm_parts_once ["f", "many", "p"] ["f", "many", "p", "found", "at", "common", "left", "shared", "part"]
theorem FX_parts_once : F_parts_once = X_parts_once := by
  have h1 : F_parts_once = slowO.bd m_parts_once ["f", "many", "p"] ["f", "many", "p", "found", "at", "common", "left", "shared", "part"] := by kernel_rfl
  have h2 : X_parts_once = fastO.bd xm_parts_once ["f", "many", "p"] ["f", "many", "p", "found", "at", "common", "left", "shared", "part"] := by kernel_rfl
  rw [h1, h2, ops_eq, xxm_parts_once]
noncomputable def gm_square_free_parts (o : Ops) (f_mdegree : List D → Option D) (f_parts_once : List D → Option D) (f_mroot : List D → Option D) : Fs := (o.sq (o.tus (o.rc (o.ro (o.lf (o.lst lNil))) (o.rc (o.rv (eC (.int (.ofNat 1)))) rNil)) [2, 3]) (o.sq (o.wh 5000 (o.gt (o.bl f_mdegree (o.lc (o.va 0) lNil)) (eC (.int (.ofNat 0)))) (o.sq (o.asg (o.bl f_parts_once (o.lc (o.va 0) (o.lc (o.va 3) (o.lc (o.va 1) lNil)))) (o.gtp [4, 5])) (o.sq (o.ss (sExt 2 (o.va 4))) (o.sq (o.tus (o.rc (o.rv (o.bl f_mroot (o.lc (o.va 5) (o.lc (o.va 1) lNil)))) (o.rc (o.rv (o.f (o.mul (o.va 3) (o.va 1)))) rNil)) [0, 3]) sNil)))) (o.sq (o.fz 2 (o.rt (o.va 2))) sNil)))
noncomputable def xm_square_free_parts : Fs := (xSeq (xTpS (xRC (xRO (xLF (xLst lNil))) (xRC (xRV (eC (.int (.ofNat 1)))) rNil)) [pX3, pX2]) (xSeq (xWh 5000 (xGt (xBL X_mdegree (xLC vX0 lNil)) (eC (.int (.ofNat 0)))) (xSeq (xAsg (xBL X_parts_once (xLC vX0 (xLC vX3 (xLC vX1 lNil)))) (xGT [pX4, pX5])) (xSeq (xSF (sExt 2 vX4)) (xSeq (xTpS (xRC (xRV (xBL X_mroot (xLC vX5 (xLC vX1 lNil)))) (xRC (xRV (xF (xMul vX3 vX1))) rNil)) [pX3, pX0]) sNil)))) (xSeq (xFz lX2 pX2 (xRet vX2)) sNil)))
theorem xxm_square_free_parts : m_square_free_parts = xm_square_free_parts := by
  have h1 : m_square_free_parts = gm_square_free_parts slowO F_mdegree F_parts_once F_mroot := by kernel_rfl
  have h2 : xm_square_free_parts = gm_square_free_parts fastO X_mdegree X_parts_once X_mroot := by kernel_rfl
  rw [h1, h2, ops_eq, FX_mdegree, FX_parts_once, FX_mroot]
noncomputable def X_square_free_parts : List D → Option D := xBd xm_square_free_parts ["f", "p"] ["f", "p", "found", "many", "parts", "rest"]
theorem FX_square_free_parts : F_square_free_parts = X_square_free_parts := by
  have h1 : F_square_free_parts = slowO.bd m_square_free_parts ["f", "p"] ["f", "p", "found", "many", "parts", "rest"] := by kernel_rfl
  have h2 : X_square_free_parts = fastO.bd xm_square_free_parts ["f", "p"] ["f", "p", "found", "many", "parts", "rest"] := by kernel_rfl
  rw [h1, h2, ops_eq, xxm_square_free_parts]
noncomputable def gm_distinct_degrees (o : Ops) (f_mdegree : List D → Option D) (f_mpower_mod : List D → Option D) (f_mgcd : List D → Option D) (f_msub : List D → Option D) (f_mquotient : List D → Option D) (f_mrest : List D → Option D) : Fs := (o.sq (o.tus (o.rc (o.ro (o.lf (o.lst lNil))) (o.rc (o.rv (eC (.int (.ofNat 0)))) (o.rc (o.rv (o.f (o.eo (o.lst (o.lc (eC (.int (.ofNat 0))) (o.lc (eC (.int (.ofNat 1))) lNil)))))) rNil))) [2, 3, 4]) (o.sq (o.wh 5000 (o.ge (o.bl f_mdegree (o.lc (o.va 0) lNil)) (o.mul (eC (.int (.ofNat 2))) (o.add (o.va 3) (eC (.int (.ofNat 1)))))) (o.sq (o.asg (o.f (o.add (o.va 3) (eC (.int (.ofNat 1))))) (o.gn 3)) (o.sq (o.asg (o.bl f_mpower_mod (o.lc (o.va 4) (o.lc (o.va 1) (o.lc (o.va 0) (o.lc (o.va 1) lNil))))) (o.gn 4)) (o.sq (o.asg (o.bl f_mgcd (o.lc (o.bl f_msub (o.lc (o.va 4) (o.lc (o.eo (o.lst (o.lc (eC (.int (.ofNat 0))) (o.lc (eC (.int (.ofNat 1))) lNil)))) (o.lc (o.va 1) lNil)))) (o.lc (o.va 0) (o.lc (o.va 1) lNil)))) (o.gn 5)) (o.sq (o.si (o.gt (o.bl f_mdegree (o.lc (o.va 5) lNil)) (eC (.int (.ofNat 0)))) (o.sq (o.ap 2 (o.tp1 (o.lc (o.va 5) (o.lc (o.va 3) lNil)))) (o.sq (o.asg (o.bl f_mquotient (o.lc (o.va 0) (o.lc (o.va 5) (o.lc (o.va 1) lNil)))) (o.gn 0)) (o.sq (o.asg (o.bl f_mrest (o.lc (o.va 4) (o.lc (o.va 0) (o.lc (o.va 1) lNil)))) (o.gn 4)) sNil))) sNil) sNil))))) (o.sq (o.si (o.gt (o.bl f_mdegree (o.lc (o.va 0) lNil)) (eC (.int (.ofNat 0)))) (o.sq (o.ap 2 (o.tp1 (o.lc (o.va 0) (o.lc (o.bl f_mdegree (o.lc (o.va 0) lNil)) lNil)))) sNil) sNil) (o.sq (o.fz 2 (o.rt (o.va 2))) sNil))))
noncomputable def xm_distinct_degrees : Fs := (xSeq (xTpS (xRC (xRO (xLF (xLst lNil))) (xRC (xRV (eC (.int (.ofNat 0)))) (xRC (xRV (xF (xO (xLst (xLC (eC (.int (.ofNat 0))) (xLC (eC (.int (.ofNat 1))) lNil)))))) rNil))) [pX4, pX3, pX2]) (xSeq (xWh 5000 (xGe (xBL X_mdegree (xLC vX0 lNil)) (xMul (eC (.int (.ofNat 2))) (xAdd vX3 (eC (.int (.ofNat 1)))))) (xSeq (xAsg (xF (xAdd vX3 (eC (.int (.ofNat 1))))) (xG pX3)) (xSeq (xAsg (xBL X_mpower_mod (xLC vX4 (xLC vX1 (xLC vX0 (xLC vX1 lNil))))) (xG pX4)) (xSeq (xAsg (xBL X_mgcd (xLC (xBL X_msub (xLC vX4 (xLC (xO (xLst (xLC (eC (.int (.ofNat 0))) (xLC (eC (.int (.ofNat 1))) lNil)))) (xLC vX1 lNil)))) (xLC vX0 (xLC vX1 lNil)))) (xG pX5)) (xSeq (xSI (xGt (xBL X_mdegree (xLC vX5 lNil)) (eC (.int (.ofNat 0)))) (xSeq (xApp lX2 pX2 (xTup (xLC vX5 (xLC vX3 lNil)))) (xSeq (xAsg (xBL X_mquotient (xLC vX0 (xLC vX5 (xLC vX1 lNil)))) (xG pX0)) (xSeq (xAsg (xBL X_mrest (xLC vX4 (xLC vX0 (xLC vX1 lNil)))) (xG pX4)) sNil))) sNil) sNil))))) (xSeq (xSI (xGt (xBL X_mdegree (xLC vX0 lNil)) (eC (.int (.ofNat 0)))) (xSeq (xApp lX2 pX2 (xTup (xLC vX0 (xLC (xBL X_mdegree (xLC vX0 lNil)) lNil)))) sNil) sNil) (xSeq (xFz lX2 pX2 (xRet vX2)) sNil))))
theorem xxm_distinct_degrees : m_distinct_degrees = xm_distinct_degrees := by
  have h1 : m_distinct_degrees = gm_distinct_degrees slowO F_mdegree F_mpower_mod F_mgcd F_msub F_mquotient F_mrest := by kernel_rfl
  have h2 : xm_distinct_degrees = gm_distinct_degrees fastO X_mdegree X_mpower_mod X_mgcd X_msub X_mquotient X_mrest := by kernel_rfl
  rw [h1, h2, ops_eq, FX_mdegree, FX_mpower_mod, FX_mgcd, FX_msub, FX_mquotient, FX_mrest]
noncomputable def X_distinct_degrees : List D → Option D := xBd xm_distinct_degrees ["f", "p"] ["f", "p", "found", "degree", "power", "common"]
theorem FX_distinct_degrees : F_distinct_degrees = X_distinct_degrees := by
  have h1 : F_distinct_degrees = slowO.bd m_distinct_degrees ["f", "p"] ["f", "p", "found", "degree", "power", "common"] := by kernel_rfl
  have h2 : X_distinct_degrees = fastO.bd xm_distinct_degrees ["f", "p"] ["f", "p", "found", "degree", "power", "common"] := by kernel_rfl
  rw [h1, h2, ops_eq, xxm_distinct_degrees]
noncomputable def gm_trace_power (o : Ops) (f_mrest : List D → Option D) (f_madd : List D → Option D) (f_mmul : List D → Option D) : Fs := (o.sq (o.tus (o.rc (o.rv (o.f (o.eo (o.lst lNil)))) (o.rc (o.rv (o.bl f_mrest (o.lc (o.va 0) (o.lc (o.va 2) (o.lc (o.va 3) lNil))))) rNil)) [4, 5]) (o.sq (o.fo (o.rng (o.lc (o.va 1) lNil)) (o.gn 6) (o.sq (o.asg (o.bl f_madd (o.lc (o.va 4) (o.lc (o.va 5) (o.lc (o.va 3) lNil)))) (o.gn 4)) (o.sq (o.asg (o.bl f_mrest (o.lc (o.bl f_mmul (o.lc (o.va 5) (o.lc (o.va 5) (o.lc (o.va 3) lNil)))) (o.lc (o.va 2) (o.lc (o.va 3) lNil)))) (o.gn 5)) sNil))) (o.sq (o.rt (o.va 4)) sNil)))
noncomputable def xm_trace_power : Fs := (xSeq (xTpS (xRC (xRV (xF (xO (xLst lNil)))) (xRC (xRV (xBL X_mrest (xLC vX0 (xLC vX2 (xLC vX3 lNil))))) rNil)) [pX5, pX4]) (xSeq (xFor (xLF (xBO fRangeX (xLC vX1 lNil))) (xG pX6) (xSeq (xAsg (xBL X_madd (xLC vX4 (xLC vX5 (xLC vX3 lNil)))) (xG pX4)) (xSeq (xAsg (xBL X_mrest (xLC (xBL X_mmul (xLC vX5 (xLC vX5 (xLC vX3 lNil)))) (xLC vX2 (xLC vX3 lNil)))) (xG pX5)) sNil))) (xSeq (xRet vX4) sNil)))
theorem xxm_trace_power : m_trace_power = xm_trace_power := by
  have h1 : m_trace_power = gm_trace_power slowO F_mrest F_madd F_mmul := by kernel_rfl
  have h2 : xm_trace_power = gm_trace_power fastO X_mrest X_madd X_mmul := by kernel_rfl
  rw [h1, h2, ops_eq, FX_mrest, FX_madd, FX_mmul]
noncomputable def X_trace_power : List D → Option D := xBd xm_trace_power ["a", "many", "f", "p"] ["a", "many", "f", "p", "found", "square", "turn"]
theorem FX_trace_power : F_trace_power = X_trace_power := by
  have h1 : F_trace_power = slowO.bd m_trace_power ["a", "many", "f", "p"] ["a", "many", "f", "p", "found", "square", "turn"] := by kernel_rfl
  have h2 : X_trace_power = fastO.bd xm_trace_power ["a", "many", "f", "p"] ["a", "many", "f", "p", "found", "square", "turn"] := by kernel_rfl
  rw [h1, h2, ops_eq, xxm_trace_power]
noncomputable def gm_split_power (o : Ops) (f_msub : List D → Option D) (f_trace_power : List D → Option D) (f_mpower_mod : List D → Option D) : Fs := (o.sq (o.si (o.eq (o.va 3) (eC (.int (.ofNat 2)))) (o.sq (o.rt (o.bl f_msub (o.lc (o.bl f_trace_power (o.lc (o.va 0) (o.lc (o.va 1) (o.lc (o.va 2) (o.lc (o.va 3) lNil))))) (o.lc (o.eo (o.lst (o.lc (eC (.int (.ofNat 1))) lNil))) (o.lc (o.va 3) lNil))))) sNil) sNil) (o.sq (o.rt (o.bl f_msub (o.lc (o.bl f_mpower_mod (o.lc (o.va 0) (o.lc (o.div (o.sub (o.b2 dPow (o.va 3) (o.va 1)) (eC (.int (.ofNat 1)))) (eC (.int (.ofNat 2)))) (o.lc (o.va 2) (o.lc (o.va 3) lNil))))) (o.lc (o.eo (o.lst (o.lc (eC (.int (.ofNat 1))) lNil))) (o.lc (o.va 3) lNil))))) sNil))
noncomputable def xm_split_power : Fs := (xSeq (xSI (xEq vX3 (eC (.int (.ofNat 2)))) (xSeq (xRet (xBL X_msub (xLC (xBL X_trace_power (xLC vX0 (xLC vX1 (xLC vX2 (xLC vX3 lNil))))) (xLC (xO (xLst (xLC (eC (.int (.ofNat 1))) lNil))) (xLC vX3 lNil))))) sNil) sNil) (xSeq (xRet (xBL X_msub (xLC (xBL X_mpower_mod (xLC vX0 (xLC (xDiv (xSub (x2 dPow vX3 vX1) (eC (.int (.ofNat 1)))) (eC (.int (.ofNat 2)))) (xLC vX2 (xLC vX3 lNil))))) (xLC (xO (xLst (xLC (eC (.int (.ofNat 1))) lNil))) (xLC vX3 lNil))))) sNil))
theorem xxm_split_power : m_split_power = xm_split_power := by
  have h1 : m_split_power = gm_split_power slowO F_msub F_trace_power F_mpower_mod := by kernel_rfl
  have h2 : xm_split_power = gm_split_power fastO X_msub X_trace_power X_mpower_mod := by kernel_rfl
  rw [h1, h2, ops_eq, FX_msub, FX_trace_power, FX_mpower_mod]
noncomputable def X_split_power : List D → Option D := xBd xm_split_power ["a", "degree", "f", "p"] ["a", "degree", "f", "p"]
theorem FX_split_power : F_split_power = X_split_power := by
  have h1 : F_split_power = slowO.bd m_split_power ["a", "degree", "f", "p"] ["a", "degree", "f", "p"] := by kernel_rfl
  have h2 : X_split_power = fastO.bd xm_split_power ["a", "degree", "f", "p"] ["a", "degree", "f", "p"] := by kernel_rfl
  rw [h1, h2, ops_eq, xxm_split_power]
noncomputable def gm_split_once (o : Ops) (f_mgcd : List D → Option D) (f_mdegree : List D → Option D) (f_split_power : List D → Option D) : Fs := (o.sq (o.asg (o.bl f_mgcd (o.lc (o.va 2) (o.lc (o.va 0) (o.lc (o.va 3) lNil)))) (o.gn 4)) (o.sq (o.si (tChain dLt dLt (eC (.int (.ofNat 0))) (o.bl f_mdegree (o.lc (o.va 4) lNil)) (o.bl f_mdegree (o.lc (o.va 0) lNil))) (o.sq (o.rt (o.va 4)) sNil) sNil) (o.sq (o.asg (o.bl f_mgcd (o.lc (o.bl f_split_power (o.lc (o.va 2) (o.lc (o.va 1) (o.lc (o.va 0) (o.lc (o.va 3) lNil))))) (o.lc (o.va 0) (o.lc (o.va 3) lNil)))) (o.gn 4)) (o.sq (o.rt (o.f (o.ei (tChain dLt dLt (eC (.int (.ofNat 0))) (o.bl f_mdegree (o.lc (o.va 4) lNil)) (o.bl f_mdegree (o.lc (o.va 0) lNil))) (o.va 4) (eC .none)))) sNil))))
noncomputable def xm_split_once : Fs := (xSeq (xAsg (xBL X_mgcd (xLC vX2 (xLC vX0 (xLC vX3 lNil)))) (xG pX4)) (xSeq (xSI (tChain dLt dLt (eC (.int (.ofNat 0))) (xBL X_mdegree (xLC vX4 lNil)) (xBL X_mdegree (xLC vX0 lNil))) (xSeq (xRet vX4) sNil) sNil) (xSeq (xAsg (xBL X_mgcd (xLC (xBL X_split_power (xLC vX2 (xLC vX1 (xLC vX0 (xLC vX3 lNil))))) (xLC vX0 (xLC vX3 lNil)))) (xG pX4)) (xSeq (xRet (xF (xIf (tChain dLt dLt (eC (.int (.ofNat 0))) (xBL X_mdegree (xLC vX4 lNil)) (xBL X_mdegree (xLC vX0 lNil))) vX4 (eC .none)))) sNil))))
theorem xxm_split_once : m_split_once = xm_split_once := by
  have h1 : m_split_once = gm_split_once slowO F_mgcd F_mdegree F_split_power := by kernel_rfl
  have h2 : xm_split_once = gm_split_once fastO X_mgcd X_mdegree X_split_power := by kernel_rfl
  rw [h1, h2, ops_eq, FX_mgcd, FX_mdegree, FX_split_power]
noncomputable def X_split_once : List D → Option D := xBd xm_split_once ["f", "degree", "a", "p"] ["f", "degree", "a", "p", "common"]
theorem FX_split_once : F_split_once = X_split_once := by
  have h1 : F_split_once = slowO.bd m_split_once ["f", "degree", "a", "p"] ["f", "degree", "a", "p", "common"] := by kernel_rfl
  have h2 : X_split_once = fastO.bd xm_split_once ["f", "degree", "a", "p"] ["f", "degree", "a", "p", "common"] := by kernel_rfl
  rw [h1, h2, ops_eq, xxm_split_once]
noncomputable def gm_counted (o : Ops) (f_mtrim : List D → Option D) : Fs := (o.sq (o.ao (o.lf (o.lst lNil)) 2) (o.sq (o.wh 5000 (o.gt (o.va 0) (eC (.int (.ofNat 0)))) (o.sq (o.ap 2 (o.mod (o.va 0) (o.va 1))) (o.sq (o.asg (o.f (o.div (o.va 0) (o.va 1))) (o.gn 0)) sNil))) (o.sq (o.fz 2 (o.rt (o.bl f_mtrim (o.lc (o.va 2) lNil)))) sNil)))
noncomputable def xm_counted : Fs := (xSeq (xAO (xLF (xLst lNil)) pX2) (xSeq (xWh 5000 (xGt vX0 (eC (.int (.ofNat 0)))) (xSeq (xApp lX2 pX2 (xMod vX0 vX1)) (xSeq (xAsg (xF (xDiv vX0 vX1)) (xG pX0)) sNil))) (xSeq (xFz lX2 pX2 (xRet (xBL X_mtrim (xLC vX2 lNil)))) sNil)))
theorem xxm_counted : m_counted = xm_counted := by
  have h1 : m_counted = gm_counted slowO F_mtrim := by kernel_rfl
  have h2 : xm_counted = gm_counted fastO X_mtrim := by kernel_rfl
  rw [h1, h2, ops_eq, FX_mtrim]
noncomputable def X_counted : List D → Option D := xBd xm_counted ["number", "p"] ["number", "p", "found"]
theorem FX_counted : F_counted = X_counted := by
  have h1 : F_counted = slowO.bd m_counted ["number", "p"] ["number", "p", "found"] := by kernel_rfl
  have h2 : X_counted = fastO.bd xm_counted ["number", "p"] ["number", "p", "found"] := by kernel_rfl
  rw [h1, h2, ops_eq, xxm_counted]
noncomputable def gm_first_split (o : Ops) (f_split_once : List D → Option D) (f_mrest : List D → Option D) (f_counted : List D → Option D) : Fs := (o.sq (o.fo (o.il (o.va 2)) (o.gn 4) (o.sq (o.asg (o.bl f_split_once (o.lc (o.va 0) (o.lc (o.va 1) (o.lc (o.bl f_mrest (o.lc (o.va 4) (o.lc (o.va 0) (o.lc (o.va 3) lNil)))) (o.lc (o.va 3) lNil))))) (o.gn 5)) (o.sq (o.si (o.tt (o.b2 dIsNot (o.va 5) (eC .none))) (o.sq (o.rt (o.va 5)) sNil) sNil) sNil))) (o.sq (o.tus (o.rc (o.rv (o.va 3)) (o.rc (o.rv (eC .none)) rNil)) [6, 5]) (o.sq (o.wh 5000 (o.tt (o.b2 dIs (o.va 5) (eC .none))) (o.sq (o.asg (o.bl f_split_once (o.lc (o.va 0) (o.lc (o.va 1) (o.lc (o.bl f_counted (o.lc (o.va 6) (o.lc (o.va 3) lNil))) (o.lc (o.va 3) lNil))))) (o.gn 5)) (o.sq (o.asg (o.f (o.add (o.va 6) (eC (.int (.ofNat 1))))) (o.gn 6)) sNil))) (o.sq (o.rt (o.va 5)) sNil))))
noncomputable def xm_first_split : Fs := (xSeq (xFor (xIL vX2) (xG pX4) (xSeq (xAsg (xBL X_split_once (xLC vX0 (xLC vX1 (xLC (xBL X_mrest (xLC vX4 (xLC vX0 (xLC vX3 lNil)))) (xLC vX3 lNil))))) (xG pX5)) (xSeq (xSI (xT (x2 dIsNot vX5 (eC .none))) (xSeq (xRet vX5) sNil) sNil) sNil))) (xSeq (xTpS (xRC (xRV vX3) (xRC (xRV (eC .none)) rNil)) [pX5, pX6]) (xSeq (xWh 5000 (xT (x2 dIs vX5 (eC .none))) (xSeq (xAsg (xBL X_split_once (xLC vX0 (xLC vX1 (xLC (xBL X_counted (xLC vX6 (xLC vX3 lNil))) (xLC vX3 lNil))))) (xG pX5)) (xSeq (xAsg (xF (xAdd vX6 (eC (.int (.ofNat 1))))) (xG pX6)) sNil))) (xSeq (xRet vX5) sNil))))
theorem xxm_first_split : m_first_split = xm_first_split := by
  have h1 : m_first_split = gm_first_split slowO F_split_once F_mrest F_counted := by kernel_rfl
  have h2 : xm_first_split = gm_first_split fastO X_split_once X_mrest X_counted := by kernel_rfl
  rw [h1, h2, ops_eq, FX_split_once, FX_mrest, FX_counted]
noncomputable def X_first_split : List D → Option D := xBd xm_first_split ["f", "degree", "choices", "p"] ["f", "degree", "choices", "p", "a", "part", "number"]
theorem FX_first_split : F_first_split = X_first_split := by
  have h1 : F_first_split = slowO.bd m_first_split ["f", "degree", "choices", "p"] ["f", "degree", "choices", "p", "a", "part", "number"] := by kernel_rfl
  have h2 : X_first_split = fastO.bd xm_first_split ["f", "degree", "choices", "p"] ["f", "degree", "choices", "p", "a", "part", "number"] := by kernel_rfl
  rw [h1, h2, ops_eq, xxm_first_split]
noncomputable def gm_equal_degree (o : Ops) (f_mmonic : List D → Option D) (f_mdegree : List D → Option D) (f_first_split : List D → Option D) (f_mquotient : List D → Option D) (f_morder : List D → Option D) : Fs := (o.sq (o.tus (o.rc (o.ro (o.lf (o.lst (o.lc (o.bl f_mmonic (o.lc (o.va 0) (o.lc (o.va 3) lNil))) lNil)))) (o.rc (o.ro (o.lf (o.lst lNil))) rNil)) [4, 5]) (o.sq (o.wh 5000 (o.gt (o.len (o.bo 4)) (eC (.int (.ofNat 0)))) (o.sq (o.ss (sPop 4 6)) (o.sq (o.si (o.eq (o.bl f_mdegree (o.lc (o.va 6) lNil)) (o.va 1)) (o.sq (o.ap 5 (o.va 6)) sNil) (o.sq (o.asg (o.bl f_first_split (o.lc (o.va 6) (o.lc (o.va 1) (o.lc (o.va 2) (o.lc (o.va 3) lNil))))) (o.gn 7)) (o.sq (o.ap 4 (o.va 7)) (o.sq (o.ap 4 (o.bl f_mquotient (o.lc (o.va 6) (o.lc (o.va 7) (o.lc (o.va 3) lNil))))) sNil)))) sNil))) (o.sq (o.fz 5 (o.rt (o.f (o.eo (oSortK (fun d => f_morder [d]) (o.va 5)))))) sNil)))
noncomputable def xm_equal_degree : Fs := (xSeq (xTpS (xRC (xRO (xLF (xLst (xLC (xBL X_mmonic (xLC vX0 (xLC vX3 lNil))) lNil)))) (xRC (xRO (xLF (xLst lNil))) rNil)) [pX5, pX4]) (xSeq (xWh 5000 (xGt (xLen bX4) (eC (.int (.ofNat 0)))) (xSeq (xSF (sPop 4 6)) (xSeq (xSI (xEq (xBL X_mdegree (xLC vX6 lNil)) vX1) (xSeq (xApp lX5 pX5 vX6) sNil) (xSeq (xAsg (xBL X_first_split (xLC vX6 (xLC vX1 (xLC vX2 (xLC vX3 lNil))))) (xG pX7)) (xSeq (xApp lX4 pX4 vX7) (xSeq (xApp lX4 pX4 (xBL X_mquotient (xLC vX6 (xLC vX7 (xLC vX3 lNil))))) sNil)))) sNil))) (xSeq (xFz lX5 pX5 (xRet (xF (xO (oSortK (fun d => X_morder [d]) vX5))))) sNil)))
theorem xxm_equal_degree : m_equal_degree = xm_equal_degree := by
  have h1 : m_equal_degree = gm_equal_degree slowO F_mmonic F_mdegree F_first_split F_mquotient F_morder := by kernel_rfl
  have h2 : xm_equal_degree = gm_equal_degree fastO X_mmonic X_mdegree X_first_split X_mquotient X_morder := by kernel_rfl
  rw [h1, h2, ops_eq, FX_mmonic, FX_mdegree, FX_first_split, FX_mquotient, FX_morder]
noncomputable def X_equal_degree : List D → Option D := xBd xm_equal_degree ["f", "degree", "choices", "p"] ["f", "degree", "choices", "p", "waiting", "found", "here", "part"]
theorem FX_equal_degree : F_equal_degree = X_equal_degree := by
  have h1 : F_equal_degree = slowO.bd m_equal_degree ["f", "degree", "choices", "p"] ["f", "degree", "choices", "p", "waiting", "found", "here", "part"] := by kernel_rfl
  have h2 : X_equal_degree = fastO.bd xm_equal_degree ["f", "degree", "choices", "p"] ["f", "degree", "choices", "p", "waiting", "found", "here", "part"] := by kernel_rfl
  rw [h1, h2, ops_eq, xxm_equal_degree]
noncomputable def gm_prime_parts (o : Ops) (f_distinct_degrees : List D → Option D) (f_equal_degree : List D → Option D) (f_morder : List D → Option D) : Fs := (o.sq (o.ao (o.lf (o.lst lNil)) 3) (o.sq (o.fo (o.il (o.bl f_distinct_degrees (o.lc (o.va 0) (o.lc (o.va 2) lNil)))) (o.gtp [4, 5]) (o.sq (o.ss (sExt 3 (o.bl f_equal_degree (o.lc (o.va 4) (o.lc (o.va 5) (o.lc (o.va 1) (o.lc (o.va 2) lNil))))))) sNil)) (o.sq (o.fz 3 (o.rt (o.f (o.eo (oSortK (fun d => f_morder [d]) (o.va 3)))))) sNil)))
noncomputable def xm_prime_parts : Fs := (xSeq (xAO (xLF (xLst lNil)) pX3) (xSeq (xFor (xIL (xBL X_distinct_degrees (xLC vX0 (xLC vX2 lNil)))) (xGT [pX4, pX5]) (xSeq (xSF (sExt 3 (xBL X_equal_degree (xLC vX4 (xLC vX5 (xLC vX1 (xLC vX2 lNil))))))) sNil)) (xSeq (xFz lX3 pX3 (xRet (xF (xO (oSortK (fun d => X_morder [d]) vX3))))) sNil)))
theorem xxm_prime_parts : m_prime_parts = xm_prime_parts := by
  have h1 : m_prime_parts = gm_prime_parts slowO F_distinct_degrees F_equal_degree F_morder := by kernel_rfl
  have h2 : xm_prime_parts = gm_prime_parts fastO X_distinct_degrees X_equal_degree X_morder := by kernel_rfl
  rw [h1, h2, ops_eq, FX_distinct_degrees, FX_equal_degree, FX_morder]
noncomputable def X_prime_parts : List D → Option D := xBd xm_prime_parts ["f", "choices", "p"] ["f", "choices", "p", "found", "product", "degree"]
theorem FX_prime_parts : F_prime_parts = X_prime_parts := by
  have h1 : F_prime_parts = slowO.bd m_prime_parts ["f", "choices", "p"] ["f", "choices", "p", "found", "product", "degree"] := by kernel_rfl
  have h2 : X_prime_parts = fastO.bd xm_prime_parts ["f", "choices", "p"] ["f", "choices", "p", "found", "product", "degree"] := by kernel_rfl
  rw [h1, h2, ops_eq, xxm_prime_parts]
noncomputable def gm_factor_order (o : Ops) (f_morder : List D → Option D) : Fs := (o.sq (o.rt (o.f (o.tp1 (o.lc (o.bl f_morder (o.lc (o.idx (o.bo 0) (eC (.int (.ofNat 0)))) lNil)) (o.lc (o.idx (o.bo 0) (eC (.int (.ofNat 1)))) lNil))))) sNil)
noncomputable def xm_factor_order : Fs := (xSeq (xRet (xF (xTup (xLC (xBL X_morder (xLC (xIdx bX0 (eC (.int (.ofNat 0)))) lNil)) (xLC (xIdx bX0 (eC (.int (.ofNat 1)))) lNil))))) sNil)
theorem xxm_factor_order : m_factor_order = xm_factor_order := by
  have h1 : m_factor_order = gm_factor_order slowO F_morder := by kernel_rfl
  have h2 : xm_factor_order = gm_factor_order fastO X_morder := by kernel_rfl
  rw [h1, h2, ops_eq, FX_morder]
noncomputable def X_factor_order : List D → Option D := xBd xm_factor_order ["pair"] ["pair"]
theorem FX_factor_order : F_factor_order = X_factor_order := by
  have h1 : F_factor_order = slowO.bd m_factor_order ["pair"] ["pair"] := by kernel_rfl
  have h2 : X_factor_order = fastO.bd xm_factor_order ["pair"] ["pair"] := by kernel_rfl
  rw [h1, h2, ops_eq, xxm_factor_order]
noncomputable def gm_mfactor (o : Ops) (f_square_free_parts : List D → Option D) (f_mmonic : List D → Option D) (f_prime_parts : List D → Option D) (f_mlead : List D → Option D) (f_factor_order : List D → Option D) : Fs := (o.sq (o.ao (o.lf (o.lst lNil)) 2) (o.sq (o.fo (o.il (o.bl f_square_free_parts (o.lc (o.bl f_mmonic (o.lc (o.va 0) (o.lc (o.va 1) lNil))) (o.lc (o.va 1) lNil)))) (o.gtp [3, 4]) (o.sq (o.ss (sExt 2 (o.eo (o.cm (o.il (o.bl f_prime_parts (o.lc (o.va 3) (o.lc (o.eo (o.lst lNil)) (o.lc (o.va 1) lNil))))) 1 [4] (o.gn 0) (fun _ => some true) (o.ke (o.f (o.tp1 (o.lc (o.va 0) (o.lc (o.va 1) lNil))))))))) sNil)) (o.sq (o.fz 2 (o.rt (o.f (o.tp1 (o.lc (o.bl f_mlead (o.lc (o.va 0) lNil)) (o.lc (o.eo (oSortK (fun d => f_factor_order [d]) (o.va 2))) lNil)))))) sNil)))
noncomputable def xm_mfactor : Fs := (xSeq (xAO (xLF (xLst lNil)) pX2) (xSeq (xFor (xIL (xBL X_square_free_parts (xLC (xBL X_mmonic (xLC vX0 (xLC vX1 lNil))) (xLC vX1 lNil)))) (xGT [pX3, pX4]) (xSeq (xSF (sExt 2 (xO (xCm (xIL (xBL X_prime_parts (xLC vX3 (xLC (xO (xLst lNil)) (xLC vX1 lNil))))) 1 [lX4] (xG pX0) (fun _ => some true) (xKE (xF (xTup (xLC vX0 (xLC vX1 lNil))))))))) sNil)) (xSeq (xFz lX2 pX2 (xRet (xF (xTup (xLC (xBL X_mlead (xLC vX0 lNil)) (xLC (xO (oSortK (fun d => X_factor_order [d]) vX2)) lNil)))))) sNil)))
theorem xxm_mfactor : m_mfactor = xm_mfactor := by
  have h1 : m_mfactor = gm_mfactor slowO F_square_free_parts F_mmonic F_prime_parts F_mlead F_factor_order := by kernel_rfl
  have h2 : xm_mfactor = gm_mfactor fastO X_square_free_parts X_mmonic X_prime_parts X_mlead X_factor_order := by kernel_rfl
  rw [h1, h2, ops_eq, FX_square_free_parts, FX_mmonic, FX_prime_parts, FX_mlead, FX_factor_order]
noncomputable def X_mfactor : List D → Option D := xBd xm_mfactor ["f", "p"] ["f", "p", "found", "part", "many"]
theorem FX_mfactor : F_mfactor = X_mfactor := by
  have h1 : F_mfactor = slowO.bd m_mfactor ["f", "p"] ["f", "p", "found", "part", "many"] := by kernel_rfl
  have h2 : X_mfactor = fastO.bd xm_mfactor ["f", "p"] ["f", "p", "found", "part", "many"] := by kernel_rfl
  rw [h1, h2, ops_eq, xxm_mfactor]
noncomputable def gm_is_prime_mod (o : Ops) (f_mdegree : List D → Option D) (f_prime_factors : List D → Option D) (f_mpower_mod : List D → Option D) (f_mgcd : List D → Option D) (f_msub : List D → Option D) (f_mrest : List D → Option D) : Fs := (o.sq (o.asg (o.bl f_mdegree (o.lc (o.va 0) lNil)) (o.gn 2)) (o.sq (o.si (o.lt (o.va 2) (eC (.int (.ofNat 1)))) (o.sq (o.rt (eC (.bool false))) sNil) sNil) (o.sq (o.fo (o.il (o.bl f_prime_factors (o.lc (o.va 2) lNil))) (o.gtp [3, 4]) (o.sq (o.asg (o.bl f_mpower_mod (o.lc (o.eo (o.lst (o.lc (eC (.int (.ofNat 0))) (o.lc (eC (.int (.ofNat 1))) lNil)))) (o.lc (o.b2 dPow (o.va 1) (o.div (o.va 2) (o.va 3))) (o.lc (o.va 0) (o.lc (o.va 1) lNil))))) (o.gn 5)) (o.sq (o.si (o.ne (o.bl f_mdegree (o.lc (o.bl f_mgcd (o.lc (o.bl f_msub (o.lc (o.va 5) (o.lc (o.bl f_mrest (o.lc (o.eo (o.lst (o.lc (eC (.int (.ofNat 0))) (o.lc (eC (.int (.ofNat 1))) lNil)))) (o.lc (o.va 0) (o.lc (o.va 1) lNil)))) (o.lc (o.va 1) lNil)))) (o.lc (o.va 0) (o.lc (o.va 1) lNil)))) lNil)) (eC (.int (.ofNat 0)))) (o.sq (o.rt (eC (.bool false))) sNil) sNil) sNil))) (o.sq (o.rt (o.f (o.b2 dEq (o.bl f_mpower_mod (o.lc (o.eo (o.lst (o.lc (eC (.int (.ofNat 0))) (o.lc (eC (.int (.ofNat 1))) lNil)))) (o.lc (o.b2 dPow (o.va 1) (o.va 2)) (o.lc (o.va 0) (o.lc (o.va 1) lNil))))) (o.bl f_mrest (o.lc (o.eo (o.lst (o.lc (eC (.int (.ofNat 0))) (o.lc (eC (.int (.ofNat 1))) lNil)))) (o.lc (o.va 0) (o.lc (o.va 1) lNil))))))) sNil))))
noncomputable def xm_is_prime_mod : Fs := (xSeq (xAsg (xBL X_mdegree (xLC vX0 lNil)) (xG pX2)) (xSeq (xSI (xLt vX2 (eC (.int (.ofNat 1)))) (xSeq (xRet (eC (.bool false))) sNil) sNil) (xSeq (xFor (xIL (xBL X_prime_factors (xLC vX2 lNil))) (xGT [pX3, pX4]) (xSeq (xAsg (xBL X_mpower_mod (xLC (xO (xLst (xLC (eC (.int (.ofNat 0))) (xLC (eC (.int (.ofNat 1))) lNil)))) (xLC (x2 dPow vX1 (xDiv vX2 vX3)) (xLC vX0 (xLC vX1 lNil))))) (xG pX5)) (xSeq (xSI (xNe (xBL X_mdegree (xLC (xBL X_mgcd (xLC (xBL X_msub (xLC vX5 (xLC (xBL X_mrest (xLC (xO (xLst (xLC (eC (.int (.ofNat 0))) (xLC (eC (.int (.ofNat 1))) lNil)))) (xLC vX0 (xLC vX1 lNil)))) (xLC vX1 lNil)))) (xLC vX0 (xLC vX1 lNil)))) lNil)) (eC (.int (.ofNat 0)))) (xSeq (xRet (eC (.bool false))) sNil) sNil) sNil))) (xSeq (xRet (xF (x2 dEq (xBL X_mpower_mod (xLC (xO (xLst (xLC (eC (.int (.ofNat 0))) (xLC (eC (.int (.ofNat 1))) lNil)))) (xLC (x2 dPow vX1 vX2) (xLC vX0 (xLC vX1 lNil))))) (xBL X_mrest (xLC (xO (xLst (xLC (eC (.int (.ofNat 0))) (xLC (eC (.int (.ofNat 1))) lNil)))) (xLC vX0 (xLC vX1 lNil))))))) sNil))))
theorem xxm_is_prime_mod : m_is_prime_mod = xm_is_prime_mod := by
  have h1 : m_is_prime_mod = gm_is_prime_mod slowO F_mdegree F_prime_factors F_mpower_mod F_mgcd F_msub F_mrest := by kernel_rfl
  have h2 : xm_is_prime_mod = gm_is_prime_mod fastO X_mdegree X_prime_factors X_mpower_mod X_mgcd X_msub X_mrest := by kernel_rfl
  rw [h1, h2, ops_eq, FX_mdegree, FX_prime_factors, FX_mpower_mod, FX_mgcd, FX_msub, FX_mrest]
noncomputable def X_is_prime_mod : List D → Option D := xBd xm_is_prime_mod ["f", "p"] ["f", "p", "many", "divisor", "times", "power"]
theorem FX_is_prime_mod : F_is_prime_mod = X_is_prime_mod := by
  have h1 : F_is_prime_mod = slowO.bd m_is_prime_mod ["f", "p"] ["f", "p", "many", "divisor", "times", "power"] := by kernel_rfl
  have h2 : X_is_prime_mod = fastO.bd xm_is_prime_mod ["f", "p"] ["f", "p", "many", "divisor", "times", "power"] := by kernel_rfl
  rw [h1, h2, ops_eq, xxm_is_prime_mod]
noncomputable def gm_berlekamp_matrix (o : Ops) (f_mdegree : List D → Option D) (f_mpower_mod : List D → Option D) (f_mrest : List D → Option D) (f_mmul : List D → Option D) : Fs := (o.sq (o.asg (o.bl f_mdegree (o.lc (o.va 0) lNil)) (o.gn 2)) (o.sq (o.tus (o.rc (o.rv (o.bl f_mpower_mod (o.lc (o.eo (o.lst (o.lc (eC (.int (.ofNat 0))) (o.lc (eC (.int (.ofNat 1))) lNil)))) (o.lc (o.va 1) (o.lc (o.va 0) (o.lc (o.va 1) lNil)))))) (o.rc (o.rv (o.bl f_mrest (o.lc (o.eo (o.lst (o.lc (eC (.int (.ofNat 1))) lNil))) (o.lc (o.va 0) (o.lc (o.va 1) lNil))))) (o.rc (o.ro (o.lf (o.lst lNil))) rNil))) [3, 4, 5]) (o.sq (o.fo (o.rng (o.lc (o.va 2) lNil)) (o.gn 6) (o.sq (o.ao (o.lf (o.ca (o.bo 4) (o.eo (oRep (o.eo (o.lst (o.lc (eC (.int (.ofNat 0))) lNil))) (o.sub (o.va 2) (o.len (o.bo 4))))))) 7) (o.sq (o.st 7 (o.va 6) (o.mod (o.sub (o.idx (o.bo 7) (o.va 6)) (eC (.int (.ofNat 1)))) (o.va 1))) (o.sq (o.fz 7 (o.ap 5 (o.va 7))) (o.sq (o.asg (o.bl f_mrest (o.lc (o.bl f_mmul (o.lc (o.va 4) (o.lc (o.va 3) (o.lc (o.va 1) lNil)))) (o.lc (o.va 0) (o.lc (o.va 1) lNil)))) (o.gn 4)) sNil))))) (o.sq (o.fz 5 (o.rt (o.va 5))) sNil))))
noncomputable def xm_berlekamp_matrix : Fs := (xSeq (xAsg (xBL X_mdegree (xLC vX0 lNil)) (xG pX2)) (xSeq (xTpS (xRC (xRV (xBL X_mpower_mod (xLC (xO (xLst (xLC (eC (.int (.ofNat 0))) (xLC (eC (.int (.ofNat 1))) lNil)))) (xLC vX1 (xLC vX0 (xLC vX1 lNil)))))) (xRC (xRV (xBL X_mrest (xLC (xO (xLst (xLC (eC (.int (.ofNat 1))) lNil))) (xLC vX0 (xLC vX1 lNil))))) (xRC (xRO (xLF (xLst lNil))) rNil))) [pX5, pX4, pX3]) (xSeq (xFor (xLF (xBO fRangeX (xLC vX2 lNil))) (xG pX6) (xSeq (xAO (xLF (xCat bX4 (xO (oRep (xO (xLst (xLC (eC (.int (.ofNat 0))) lNil))) (xSub vX2 (xLen bX4)))))) pX7) (xSeq (xSet lX7 pX7 vX6 (xMod (xSub (xIdx bX7 vX6) (eC (.int (.ofNat 1)))) vX1)) (xSeq (xFz lX7 pX7 (xApp lX5 pX5 vX7)) (xSeq (xAsg (xBL X_mrest (xLC (xBL X_mmul (xLC vX4 (xLC vX3 (xLC vX1 lNil)))) (xLC vX0 (xLC vX1 lNil)))) (xG pX4)) sNil))))) (xSeq (xFz lX5 pX5 (xRet vX5)) sNil))))
theorem xxm_berlekamp_matrix : m_berlekamp_matrix = xm_berlekamp_matrix := by
  have h1 : m_berlekamp_matrix = gm_berlekamp_matrix slowO F_mdegree F_mpower_mod F_mrest F_mmul := by kernel_rfl
  have h2 : xm_berlekamp_matrix = gm_berlekamp_matrix fastO X_mdegree X_mpower_mod X_mrest X_mmul := by kernel_rfl
  rw [h1, h2, ops_eq, FX_mdegree, FX_mpower_mod, FX_mrest, FX_mmul]
noncomputable def X_berlekamp_matrix : List D → Option D := xBd xm_berlekamp_matrix ["f", "p"] ["f", "p", "many", "step", "power", "rows", "at", "row"]
theorem FX_berlekamp_matrix : F_berlekamp_matrix = X_berlekamp_matrix := by
  have h1 : F_berlekamp_matrix = slowO.bd m_berlekamp_matrix ["f", "p"] ["f", "p", "many", "step", "power", "rows", "at", "row"] := by kernel_rfl
  have h2 : X_berlekamp_matrix = fastO.bd xm_berlekamp_matrix ["f", "p"] ["f", "p", "many", "step", "power", "rows", "at", "row"] := by kernel_rfl
  rw [h1, h2, ops_eq, xxm_berlekamp_matrix]
noncomputable def gm_pivot_row (o : Ops)  : Fs := (o.sq (o.fo (o.rng (o.lc (o.va 1) (o.lc (o.len (o.bo 0)) lNil))) (o.gn 3) (o.sq (o.si (o.ne (o.idx (o.idx (o.bo 0) (o.va 3)) (o.va 2)) (eC (.int (.ofNat 0)))) (o.sq (o.rt (o.va 3)) sNil) sNil) sNil)) (o.sq (o.rt (o.f (o.b1 dNeg (eC (.int (.ofNat 1)))))) sNil))
noncomputable def xm_pivot_row : Fs := (xSeq (xFor (xLF (xBO fRangeX (xLC vX1 (xLC (xLen bX0) lNil)))) (xG pX3) (xSeq (xSI (xNe (xIdx (xIdx bX0 vX3) vX2) (eC (.int (.ofNat 0)))) (xSeq (xRet vX3) sNil) sNil) sNil)) (xSeq (xRet (xF (x1 dNeg (eC (.int (.ofNat 1)))))) sNil))
theorem xxm_pivot_row : m_pivot_row = xm_pivot_row := by
  have h1 : m_pivot_row = gm_pivot_row slowO  := by kernel_rfl
  have h2 : xm_pivot_row = gm_pivot_row fastO  := by kernel_rfl
  rw [h1, h2, ops_eq]
noncomputable def X_pivot_row : List D → Option D := xBd xm_pivot_row ["work", "done", "column"] ["work", "done", "column", "at"]
theorem FX_pivot_row : F_pivot_row = X_pivot_row := by
  have h1 : F_pivot_row = slowO.bd m_pivot_row ["work", "done", "column"] ["work", "done", "column", "at"] := by kernel_rfl
  have h2 : X_pivot_row = fastO.bd xm_pivot_row ["work", "done", "column"] ["work", "done", "column", "at"] := by kernel_rfl
  rw [h1, h2, ops_eq, xxm_pivot_row]
noncomputable def gm_clear_below (o : Ops) (f_inverse_mod : List D → Option D) : Fs := (o.sq (o.asg (o.bl f_inverse_mod (o.lc (o.idx (o.idx (o.bo 6) (o.va 0)) (o.va 1)) (o.lc (o.va 2) lNil))) (o.gn 3)) (o.sq (o.fo (o.rng (o.lc (o.add (o.va 0) (eC (.int (.ofNat 1)))) (o.lc (o.len (o.bo 6)) lNil))) (o.gn 4) (o.sq (o.asg (o.f (o.mod (o.mul (o.idx (o.idx (o.bo 6) (o.va 4)) (o.va 1)) (o.va 3)) (o.va 2))) (o.gn 5)) (o.sq (o.si (o.ne (o.va 5) (eC (.int (.ofNat 0)))) (o.sq (o.st 6 (o.va 4) (o.eo (o.cm (o.lf (o.blo fZip (o.lc (o.idx (o.bo 6) (o.va 4)) (o.lc (o.idx (o.bo 6) (o.va 0)) lNil)))) 2 [5, 2] (o.gtp [0, 1]) (fun _ => some true) (o.ke (o.f (o.mod (o.sub (o.va 0) (o.mul (o.va 2) (o.va 1))) (o.va 3))))))) sNil) sNil) sNil))) sNil))
noncomputable def xm_clear_below : Fs := (xSeq (xAsg (xBL X_inverse_mod (xLC (xIdx (xIdx bX6 vX0) vX1) (xLC vX2 lNil))) (xG pX3)) (xSeq (xFor (xLF (xBO fRangeX (xLC (xAdd vX0 (eC (.int (.ofNat 1)))) (xLC (xLen bX6) lNil)))) (xG pX4) (xSeq (xAsg (xF (xMod (xMul (xIdx (xIdx bX6 vX4) vX1) vX3) vX2)) (xG pX5)) (xSeq (xSI (xNe vX5 (eC (.int (.ofNat 0)))) (xSeq (xSet lX6 pX6 vX4 (xO (xCm (xLF (xBO fZip (xLC (xIdx bX6 vX4) (xLC (xIdx bX6 vX0) lNil)))) 2 [lX5, lX2] (xGT [pX0, pX1]) (fun _ => some true) (xKE (xF (xMod (xSub vX0 (xMul vX2 vX1)) vX3)))))) sNil) sNil) sNil))) sNil))
theorem xxm_clear_below : m_clear_below = xm_clear_below := by
  have h1 : m_clear_below = gm_clear_below slowO F_inverse_mod := by kernel_rfl
  have h2 : xm_clear_below = gm_clear_below fastO X_inverse_mod := by kernel_rfl
  rw [h1, h2, ops_eq, FX_inverse_mod]
noncomputable def X_clear_below : List D → List D → Option (List D) := mBody xm_clear_below ["done", "column", "p"] ["done", "column", "p", "turn", "at", "number"]
theorem FX_clear_below : F_clear_below = X_clear_below := by
  unfold F_clear_below X_clear_below
  rw [xxm_clear_below]
noncomputable def gm_null_space (o : Ops) (f_pivot_row : List D → Option D) (f_clear_below : List D → List D → Option (List D)) : Fs := (o.sq (o.asg (o.len (o.bo 0)) (o.gn 2)) (o.sq (o.ao (o.cm (o.en (o.va 0)) 2 [2] (o.gtp [0, 1]) (fun _ => some true) (o.ke (o.f (o.eo (o.ca (o.eo (o.blo fList (o.lc (o.bo 1) lNil))) (o.eo (o.cm (o.rng (o.lc (o.va 2) lNil)) 1 [0] (o.gn 0) (fun _ => some true) (o.ke (o.f (o.bl fInt (o.lc (o.b2 dEq (o.va 0) (o.va 1)) lNil))))))))))) 3) (o.sq (o.tu (o.rc (o.rv (o.f (o.ei (o.gt (o.va 2) (eC (.int (.ofNat 0)))) (o.len (o.idx (o.bo 0) (eC (.int (.ofNat 0))))) (eC (.int (.ofNat 0)))))) (o.rc (o.rv (eC (.int (.ofNat 0)))) rNil)) [4, 5]) (o.sq (o.fo (o.rng (o.lc (o.va 4) lNil)) (o.gn 6) (o.sq (o.asg (bindF f_pivot_row (o.lc (o.bo 3) (o.lc (o.bo 5) (o.lc (o.bo 6) lNil)))) (o.gn 7)) (o.sq (o.si (o.ge (o.va 7) (eC (.int (.ofNat 0)))) (o.sq (o.ss (sSwap 3 (o.va 5) (o.va 7) (o.idx (o.bo 3) (o.va 7)) (o.idx (o.bo 3) (o.va 5)))) (o.sq (o.ss (sCallM 3 (o.lc (o.va 5) (o.lc (o.va 6) (o.lc (o.va 1) lNil))) f_clear_below)) (o.sq (o.asg (o.f (o.add (o.va 5) (eC (.int (.ofNat 1))))) (o.gn 5)) sNil))) sNil) sNil))) (o.sq (o.rt (o.f (o.eo (o.cm (o.lf (o.il (o.eo (oSl (o.bo 3) (some (o.va 5)) none)))) 1 [4] (o.gn 0) (fun _ => some true) (o.ke (o.f (o.eo (oSl (o.bo 0) (some (o.va 1)) none)))))))) sNil)))))
noncomputable def xm_null_space : Fs := (xSeq (xAsg (xLen bX0) (xG pX2)) (xSeq (xAO (xCm (xEn vX0) 2 [lX2] (xGT [pX0, pX1]) (fun _ => some true) (xKE (xF (xO (xCat (xO (xBO fList (xLC bX1 lNil))) (xO (xCm (xLF (xBO fRangeX (xLC vX2 lNil))) 1 [lX0] (xG pX0) (fun _ => some true) (xKE (xF (xBL fInt (xLC (x2 dEq vX0 vX1) lNil))))))))))) pX3) (xSeq (xTp (xRC (xRV (xF (xIf (xGt vX2 (eC (.int (.ofNat 0)))) (xLen (xIdx bX0 (eC (.int (.ofNat 0))))) (eC (.int (.ofNat 0)))))) (xRC (xRV (eC (.int (.ofNat 0)))) rNil)) [pX4, pX5]) (xSeq (xFor (xLF (xBO fRangeX (xLC vX4 lNil))) (xG pX6) (xSeq (xAsg (bindF X_pivot_row (xLC bX3 (xLC bX5 (xLC bX6 lNil)))) (xG pX7)) (xSeq (xSI (xGe vX7 (eC (.int (.ofNat 0)))) (xSeq (xSF (sSwap 3 vX5 vX7 (xIdx bX3 vX7) (xIdx bX3 vX5))) (xSeq (xSF (sCallM 3 (xLC vX5 (xLC vX6 (xLC vX1 lNil))) X_clear_below)) (xSeq (xAsg (xF (xAdd vX5 (eC (.int (.ofNat 1))))) (xG pX5)) sNil))) sNil) sNil))) (xSeq (xRet (xF (xO (xCm (xLF (xIL (xO (oSl bX3 (some vX5) none)))) 1 [lX4] (xG pX0) (fun _ => some true) (xKE (xF (xO (oSl bX0 (some vX1) none)))))))) sNil)))))
theorem xxm_null_space : m_null_space = xm_null_space := by
  have h1 : m_null_space = gm_null_space slowO F_pivot_row F_clear_below := by kernel_rfl
  have h2 : xm_null_space = gm_null_space fastO X_pivot_row X_clear_below := by kernel_rfl
  rw [h1, h2, ops_eq, FX_pivot_row, FX_clear_below]
noncomputable def X_null_space : List D → Option D := xBd xm_null_space ["rows", "p"] ["rows", "p", "many", "work", "wide", "done", "column", "pivot"]
theorem FX_null_space : F_null_space = X_null_space := by
  have h1 : F_null_space = slowO.bd m_null_space ["rows", "p"] ["rows", "p", "many", "work", "wide", "done", "column", "pivot"] := by kernel_rfl
  have h2 : X_null_space = fastO.bd xm_null_space ["rows", "p"] ["rows", "p", "many", "work", "wide", "done", "column", "pivot"] := by kernel_rfl
  rw [h1, h2, ops_eq, xxm_null_space]
noncomputable def gm_count_factors (o : Ops) (f_null_space : List D → Option D) (f_berlekamp_matrix : List D → Option D) : Fs := (o.sq (o.rt (o.len (o.bl f_null_space (o.lc (o.bl f_berlekamp_matrix (o.lc (o.va 0) (o.lc (o.va 1) lNil))) (o.lc (o.va 1) lNil))))) sNil)
noncomputable def xm_count_factors : Fs := (xSeq (xRet (xLen (xBL X_null_space (xLC (xBL X_berlekamp_matrix (xLC vX0 (xLC vX1 lNil))) (xLC vX1 lNil))))) sNil)
theorem xxm_count_factors : m_count_factors = xm_count_factors := by
  have h1 : m_count_factors = gm_count_factors slowO F_null_space F_berlekamp_matrix := by kernel_rfl
  have h2 : xm_count_factors = gm_count_factors fastO X_null_space X_berlekamp_matrix := by kernel_rfl
  rw [h1, h2, ops_eq, FX_null_space, FX_berlekamp_matrix]
noncomputable def X_count_factors : List D → Option D := xBd xm_count_factors ["f", "p"] ["f", "p"]
theorem FX_count_factors : F_count_factors = X_count_factors := by
  have h1 : F_count_factors = slowO.bd m_count_factors ["f", "p"] ["f", "p"] := by kernel_rfl
  have h2 : X_count_factors = fastO.bd xm_count_factors ["f", "p"] ["f", "p"] := by kernel_rfl
  rw [h1, h2, ops_eq, xxm_count_factors]
noncomputable def gm_gf_size (o : Ops) (f_mdegree : List D → Option D) : Fs := (o.sq (o.rt (o.f (o.b2 dPow (o.va 1) (o.bl f_mdegree (o.lc (o.va 0) lNil))))) sNil)
noncomputable def xm_gf_size : Fs := (xSeq (xRet (xF (x2 dPow vX1 (xBL X_mdegree (xLC vX0 lNil))))) sNil)
theorem xxm_gf_size : m_gf_size = xm_gf_size := by
  have h1 : m_gf_size = gm_gf_size slowO F_mdegree := by kernel_rfl
  have h2 : xm_gf_size = gm_gf_size fastO X_mdegree := by kernel_rfl
  rw [h1, h2, ops_eq, FX_mdegree]
noncomputable def X_gf_size : List D → Option D := xBd xm_gf_size ["m", "p"] ["m", "p"]
theorem FX_gf_size : F_gf_size = X_gf_size := by
  have h1 : F_gf_size = slowO.bd m_gf_size ["m", "p"] ["m", "p"] := by kernel_rfl
  have h2 : X_gf_size = fastO.bd xm_gf_size ["m", "p"] ["m", "p"] := by kernel_rfl
  rw [h1, h2, ops_eq, xxm_gf_size]
noncomputable def gm_gf_things (o : Ops) (f_gf_size : List D → Option D) (f_counted : List D → Option D) : Fs := (o.sq (o.rt (o.f (o.eo (o.cm (o.rng (o.lc (o.bl f_gf_size (o.lc (o.va 0) (o.lc (o.va 1) lNil))) lNil)) 1 [1] (o.gn 0) (fun _ => some true) (o.ke (o.bl f_counted (o.lc (o.va 0) (o.lc (o.va 1) lNil)))))))) sNil)
noncomputable def xm_gf_things : Fs := (xSeq (xRet (xF (xO (xCm (xLF (xBO fRangeX (xLC (xBL X_gf_size (xLC vX0 (xLC vX1 lNil))) lNil))) 1 [lX1] (xG pX0) (fun _ => some true) (xKE (xBL X_counted (xLC vX0 (xLC vX1 lNil)))))))) sNil)
theorem xxm_gf_things : m_gf_things = xm_gf_things := by
  have h1 : m_gf_things = gm_gf_things slowO F_gf_size F_counted := by kernel_rfl
  have h2 : xm_gf_things = gm_gf_things fastO X_gf_size X_counted := by kernel_rfl
  rw [h1, h2, ops_eq, FX_gf_size, FX_counted]
noncomputable def X_gf_things : List D → Option D := xBd xm_gf_things ["m", "p"] ["m", "p"]
theorem FX_gf_things : F_gf_things = X_gf_things := by
  have h1 : F_gf_things = slowO.bd m_gf_things ["m", "p"] ["m", "p"] := by kernel_rfl
  have h2 : X_gf_things = fastO.bd xm_gf_things ["m", "p"] ["m", "p"] := by kernel_rfl
  rw [h1, h2, ops_eq, xxm_gf_things]
noncomputable def gm_gf_multiply (o : Ops) (f_mrest : List D → Option D) (f_mmul : List D → Option D) : Fs := (o.sq (o.rt (o.bl f_mrest (o.lc (o.bl f_mmul (o.lc (o.va 0) (o.lc (o.va 1) (o.lc (o.va 3) lNil)))) (o.lc (o.va 2) (o.lc (o.va 3) lNil))))) sNil)
noncomputable def xm_gf_multiply : Fs := (xSeq (xRet (xBL X_mrest (xLC (xBL X_mmul (xLC vX0 (xLC vX1 (xLC vX3 lNil)))) (xLC vX2 (xLC vX3 lNil))))) sNil)
theorem xxm_gf_multiply : m_gf_multiply = xm_gf_multiply := by
  have h1 : m_gf_multiply = gm_gf_multiply slowO F_mrest F_mmul := by kernel_rfl
  have h2 : xm_gf_multiply = gm_gf_multiply fastO X_mrest X_mmul := by kernel_rfl
  rw [h1, h2, ops_eq, FX_mrest, FX_mmul]
noncomputable def X_gf_multiply : List D → Option D := xBd xm_gf_multiply ["a", "b", "m", "p"] ["a", "b", "m", "p"]
theorem FX_gf_multiply : F_gf_multiply = X_gf_multiply := by
  have h1 : F_gf_multiply = slowO.bd m_gf_multiply ["a", "b", "m", "p"] ["a", "b", "m", "p"] := by kernel_rfl
  have h2 : X_gf_multiply = fastO.bd xm_gf_multiply ["a", "b", "m", "p"] ["a", "b", "m", "p"] := by kernel_rfl
  rw [h1, h2, ops_eq, xxm_gf_multiply]
noncomputable def gm_gf_at (o : Ops) (f_madd : List D → Option D) (f_gf_multiply : List D → Option D) (f_mscale : List D → Option D) : Fs := (o.sq (o.asg (o.f (o.eo (o.lst lNil))) (o.gn 4)) (o.sq (o.fo (o.lf (o.il (o.eo (o.rev (o.bo 0))))) (o.gn 5) (o.sq (o.asg (o.bl f_madd (o.lc (o.bl f_gf_multiply (o.lc (o.va 4) (o.lc (o.va 1) (o.lc (o.va 2) (o.lc (o.va 3) lNil))))) (o.lc (o.bl f_mscale (o.lc (o.eo (o.lst (o.lc (eC (.int (.ofNat 1))) lNil))) (o.lc (o.va 5) (o.lc (o.va 3) lNil)))) (o.lc (o.va 3) lNil)))) (o.gn 4)) sNil)) (o.sq (o.rt (o.va 4)) sNil)))
noncomputable def xm_gf_at : Fs := (xSeq (xAsg (xF (xO (xLst lNil))) (xG pX4)) (xSeq (xFor (xLF (xIL (xO (xRev bX0)))) (xG pX5) (xSeq (xAsg (xBL X_madd (xLC (xBL X_gf_multiply (xLC vX4 (xLC vX1 (xLC vX2 (xLC vX3 lNil))))) (xLC (xBL X_mscale (xLC (xO (xLst (xLC (eC (.int (.ofNat 1))) lNil))) (xLC vX5 (xLC vX3 lNil)))) (xLC vX3 lNil)))) (xG pX4)) sNil)) (xSeq (xRet vX4) sNil)))
theorem xxm_gf_at : m_gf_at = xm_gf_at := by
  have h1 : m_gf_at = gm_gf_at slowO F_madd F_gf_multiply F_mscale := by kernel_rfl
  have h2 : xm_gf_at = gm_gf_at fastO X_madd X_gf_multiply X_mscale := by kernel_rfl
  rw [h1, h2, ops_eq, FX_madd, FX_gf_multiply, FX_mscale]
noncomputable def X_gf_at : List D → Option D := xBd xm_gf_at ["f", "a", "m", "p"] ["f", "a", "m", "p", "found", "number"]
theorem FX_gf_at : F_gf_at = X_gf_at := by
  have h1 : F_gf_at = slowO.bd m_gf_at ["f", "a", "m", "p"] ["f", "a", "m", "p", "found", "number"] := by kernel_rfl
  have h2 : X_gf_at = fastO.bd xm_gf_at ["f", "a", "m", "p"] ["f", "a", "m", "p", "found", "number"] := by kernel_rfl
  rw [h1, h2, ops_eq, xxm_gf_at]
noncomputable def gm_moebius (o : Ops) (f_prime_factors : List D → Option D) : Fs := (o.sq (o.asg (o.bl f_prime_factors (o.lc (o.va 0) lNil)) (o.gn 1)) (o.sq (o.si (o.tt (o.bl fAny (o.lc (o.eo (o.cm (o.il (o.va 1)) 2 [] (o.gtp [0, 1]) (fun _ => some true) (o.ke (o.f (o.b2 dGt (o.va 1) (eC (.int (.ofNat 1)))))))) lNil))) (o.sq (o.rt (eC (.int (.ofNat 0)))) sNil) sNil) (o.sq (o.rt (o.f (o.ei (o.eq (o.mod (o.len (o.bo 1)) (eC (.int (.ofNat 2)))) (eC (.int (.ofNat 0)))) (eC (.int (.ofNat 1))) (o.b1 dNeg (eC (.int (.ofNat 1))))))) sNil)))
noncomputable def xm_moebius : Fs := (xSeq (xAsg (xBL X_prime_factors (xLC vX0 lNil)) (xG pX1)) (xSeq (xSI (xT (xBL fAny (xLC (xO (xCm (xIL vX1) 2 [] (xGT [pX0, pX1]) (fun _ => some true) (xKE (xF (x2 dGt vX1 (eC (.int (.ofNat 1)))))))) lNil))) (xSeq (xRet (eC (.int (.ofNat 0)))) sNil) sNil) (xSeq (xRet (xF (xIf (xEq (xMod (xLen bX1) (eC (.int (.ofNat 2)))) (eC (.int (.ofNat 0)))) (eC (.int (.ofNat 1))) (x1 dNeg (eC (.int (.ofNat 1))))))) sNil)))
theorem xxm_moebius : m_moebius = xm_moebius := by
  have h1 : m_moebius = gm_moebius slowO F_prime_factors := by kernel_rfl
  have h2 : xm_moebius = gm_moebius fastO X_prime_factors := by kernel_rfl
  rw [h1, h2, ops_eq, FX_prime_factors]
noncomputable def X_moebius : List D → Option D := xBd xm_moebius ["n"] ["n", "pairs"]
theorem FX_moebius : F_moebius = X_moebius := by
  have h1 : F_moebius = slowO.bd m_moebius ["n"] ["n", "pairs"] := by kernel_rfl
  have h2 : X_moebius = fastO.bd xm_moebius ["n"] ["n", "pairs"] := by kernel_rfl
  rw [h1, h2, ops_eq, xxm_moebius]
noncomputable def gm_count_prime_polys (o : Ops) (f_moebius : List D → Option D) : Fs := (o.sq (o.asg (eC (.int (.ofNat 0))) (o.gn 2)) (o.sq (o.fo (o.rng (o.lc (eC (.int (.ofNat 1))) (o.lc (o.add (o.va 1) (eC (.int (.ofNat 1)))) lNil))) (o.gn 3) (o.sq (o.si (o.eq (o.mod (o.va 1) (o.va 3)) (eC (.int (.ofNat 0)))) (o.sq (o.asg (o.f (o.add (o.va 2) (o.mul (o.bl f_moebius (o.lc (o.va 3) lNil)) (o.b2 dPow (o.va 0) (o.div (o.va 1) (o.va 3)))))) (o.gn 2)) sNil) sNil) sNil)) (o.sq (o.rt (o.f (o.div (o.va 2) (o.va 1)))) sNil)))
noncomputable def xm_count_prime_polys : Fs := (xSeq (xAsg (eC (.int (.ofNat 0))) (xG pX2)) (xSeq (xFor (xLF (xBO fRangeX (xLC (eC (.int (.ofNat 1))) (xLC (xAdd vX1 (eC (.int (.ofNat 1)))) lNil)))) (xG pX3) (xSeq (xSI (xEq (xMod vX1 vX3) (eC (.int (.ofNat 0)))) (xSeq (xAsg (xF (xAdd vX2 (xMul (xBL X_moebius (xLC vX3 lNil)) (x2 dPow vX0 (xDiv vX1 vX3))))) (xG pX2)) sNil) sNil) sNil)) (xSeq (xRet (xF (xDiv vX2 vX1))) sNil)))
theorem xxm_count_prime_polys : m_count_prime_polys = xm_count_prime_polys := by
  have h1 : m_count_prime_polys = gm_count_prime_polys slowO F_moebius := by kernel_rfl
  have h2 : xm_count_prime_polys = gm_count_prime_polys fastO X_moebius := by kernel_rfl
  rw [h1, h2, ops_eq, FX_moebius]
noncomputable def X_count_prime_polys : List D → Option D := xBd xm_count_prime_polys ["p", "k"] ["p", "k", "found", "divisor"]
theorem FX_count_prime_polys : F_count_prime_polys = X_count_prime_polys := by
  have h1 : F_count_prime_polys = slowO.bd m_count_prime_polys ["p", "k"] ["p", "k", "found", "divisor"] := by kernel_rfl
  have h2 : X_count_prime_polys = fastO.bd xm_count_prime_polys ["p", "k"] ["p", "k", "found", "divisor"] := by kernel_rfl
  rw [h1, h2, ops_eq, xxm_count_prime_polys]
noncomputable def gm_first_prime_poly (o : Ops) (f_is_prime_mod : List D → Option D) (f_counted : List D → Option D) : Fs := (o.sq (o.asg (o.f (o.b2 dPow (o.va 0) (o.va 1))) (o.gn 2)) (o.sq (o.wh 5000 (tNot (o.tt (o.bl f_is_prime_mod (o.lc (o.bl f_counted (o.lc (o.va 2) (o.lc (o.va 0) lNil))) (o.lc (o.va 0) lNil))))) (o.sq (o.asg (o.f (o.add (o.va 2) (eC (.int (.ofNat 1))))) (o.gn 2)) sNil)) (o.sq (o.rt (o.bl f_counted (o.lc (o.va 2) (o.lc (o.va 0) lNil)))) sNil)))
noncomputable def xm_first_prime_poly : Fs := (xSeq (xAsg (xF (x2 dPow vX0 vX1)) (xG pX2)) (xSeq (xWh 5000 (tNot (xT (xBL X_is_prime_mod (xLC (xBL X_counted (xLC vX2 (xLC vX0 lNil))) (xLC vX0 lNil))))) (xSeq (xAsg (xF (xAdd vX2 (eC (.int (.ofNat 1))))) (xG pX2)) sNil)) (xSeq (xRet (xBL X_counted (xLC vX2 (xLC vX0 lNil)))) sNil)))
theorem xxm_first_prime_poly : m_first_prime_poly = xm_first_prime_poly := by
  have h1 : m_first_prime_poly = gm_first_prime_poly slowO F_is_prime_mod F_counted := by kernel_rfl
  have h2 : xm_first_prime_poly = gm_first_prime_poly fastO X_is_prime_mod X_counted := by kernel_rfl
  rw [h1, h2, ops_eq, FX_is_prime_mod, FX_counted]
noncomputable def X_first_prime_poly : List D → Option D := xBd xm_first_prime_poly ["p", "k"] ["p", "k", "number"]
theorem FX_first_prime_poly : F_first_prime_poly = X_first_prime_poly := by
  have h1 : F_first_prime_poly = slowO.bd m_first_prime_poly ["p", "k"] ["p", "k", "number"] := by kernel_rfl
  have h2 : X_first_prime_poly = fastO.bd xm_first_prime_poly ["p", "k"] ["p", "k", "number"] := by kernel_rfl
  rw [h1, h2, ops_eq, xxm_first_prime_poly]
noncomputable def gm_law_times (o : Ops)  : Fs := (o.sq (o.ao (o.lf (oRep (o.eo (o.lst (o.lc (eC (.int (.ofNat 0))) lNil))) (o.sub (o.add (o.len (o.bo 0)) (o.len (o.bo 1))) (eC (.int (.ofNat 1)))))) 3) (o.sq (o.fo (o.en (o.va 0)) (o.gtp [4, 5]) (o.sq (o.fo (o.en (o.va 1)) (o.gtp [6, 7]) (o.sq (o.st 3 (o.add (o.va 4) (o.va 6)) (o.mod (o.add (o.idx (o.bo 3) (o.add (o.va 4) (o.va 6))) (o.mul (o.va 5) (o.va 7))) (o.va 2))) sNil)) sNil)) (o.sq (o.fz 3 (o.rt (o.va 3))) sNil)))
noncomputable def xm_law_times : Fs := (xSeq (xAO (xLF (oRep (xO (xLst (xLC (eC (.int (.ofNat 0))) lNil))) (xSub (xAdd (xLen bX0) (xLen bX1)) (eC (.int (.ofNat 1)))))) pX3) (xSeq (xFor (xEn vX0) (xGT [pX4, pX5]) (xSeq (xFor (xEn vX1) (xGT [pX6, pX7]) (xSeq (xSet lX3 pX3 (xAdd vX4 vX6) (xMod (xAdd (xIdx bX3 (xAdd vX4 vX6)) (xMul vX5 vX7)) vX2)) sNil)) sNil)) (xSeq (xFz lX3 pX3 (xRet vX3)) sNil)))
theorem xxm_law_times : m_law_times = xm_law_times := by
  have h1 : m_law_times = gm_law_times slowO  := by kernel_rfl
  have h2 : xm_law_times = gm_law_times fastO  := by kernel_rfl
  rw [h1, h2, ops_eq]
noncomputable def X_law_times : List D → Option D := xBd xm_law_times ["a", "b", "p"] ["a", "b", "p", "found", "at", "one", "spot", "other"]
theorem FX_law_times : F_law_times = X_law_times := by
  have h1 : F_law_times = slowO.bd m_law_times ["a", "b", "p"] ["a", "b", "p", "found", "at", "one", "spot", "other"] := by kernel_rfl
  have h2 : X_law_times = fastO.bd xm_law_times ["a", "b", "p"] ["a", "b", "p", "found", "at", "one", "spot", "other"] := by kernel_rfl
  rw [h1, h2, ops_eq, xxm_law_times]
noncomputable def gm_law_monic (o : Ops)  : Fs := (o.sq (o.asg (o.f (o.eo (o.lst (o.lc (o.eo (o.lst lNil)) lNil)))) (o.gn 2)) (o.sq (o.fo (o.rng (o.lc (o.va 0) lNil)) (o.gn 3) (o.sq (o.qf 2 (o.ao (o.cm (o.il (o.va 2)) 2 [1] (o.gn 0) (fun _ => some true) (o.kg (o.rng (o.lc (o.va 2) lNil)) (o.gn 1) (fun _ => some true) (o.ke (o.f (o.eo (o.ca (o.eo (o.lst (o.lc (o.va 1) lNil))) (o.bo 0))))))) 2)) sNil)) (o.sq (o.rt (o.f (o.eo (oSortK (fun d => (eO (oRev (eVarB 0))) [(.val d)]) (o.eo (o.cm (o.il (o.va 2)) 1 [] (o.gn 0) (fun _ => some true) (o.ke (o.f (o.eo (o.ca (o.bo 0) (o.eo (o.lst (o.lc (eC (.int (.ofNat 1))) lNil))))))))))))) sNil)))
noncomputable def xm_law_monic : Fs := (xSeq (xAsg (xF (xO (xLst (xLC (xO (xLst lNil)) lNil)))) (xG pX2)) (xSeq (xFor (xLF (xBO fRangeX (xLC vX0 lNil))) (xG pX3) (xSeq (xQF lX2 pX2 (xAO (xCm (xIL vX2) 2 [lX1] (xG pX0) (fun _ => some true) (xKG (xLF (xBO fRangeX (xLC vX2 lNil))) (xG pX1) (fun _ => some true) (xKE (xF (xO (xCat (xO (xLst (xLC vX1 lNil))) bX0)))))) pX2)) sNil)) (xSeq (xRet (xF (xO (oSortK (fun d => (eO (oRev (eVarB 0))) [(.val d)]) (xO (xCm (xIL vX2) 1 [] (xG pX0) (fun _ => some true) (xKE (xF (xO (xCat bX0 (xO (xLst (xLC (eC (.int (.ofNat 1))) lNil))))))))))))) sNil)))
theorem xxm_law_monic : m_law_monic = xm_law_monic := by
  have h1 : m_law_monic = gm_law_monic slowO  := by kernel_rfl
  have h2 : xm_law_monic = gm_law_monic fastO  := by kernel_rfl
  rw [h1, h2, ops_eq]
noncomputable def X_law_monic : List D → Option D := xBd xm_law_monic ["degree", "p"] ["degree", "p", "rows", "turn"]
theorem FX_law_monic : F_law_monic = X_law_monic := by
  have h1 : F_law_monic = slowO.bd m_law_monic ["degree", "p"] ["degree", "p", "rows", "turn"] := by kernel_rfl
  have h2 : X_law_monic = fastO.bd xm_law_monic ["degree", "p"] ["degree", "p", "rows", "turn"] := by kernel_rfl
  rw [h1, h2, ops_eq, xxm_law_monic]
noncomputable def gm_law_monicT (o : Ops)  : Fs := (sSeqT (o.asg (o.f (o.eo (o.lst (o.lc (o.eo (o.lst lNil)) lNil)))) (o.gn 2)) (sSeqT (o.fo (o.rng (o.lc (o.va 0) lNil)) (o.gn 3) (o.sq (o.qf 2 (o.ao (o.cm (o.il (o.va 2)) 2 [1] (o.gn 0) (fun _ => some true) (o.kg (o.rng (o.lc (o.va 2) lNil)) (o.gn 1) (fun _ => some true) (o.ke (o.f (o.eo (o.ca (o.eo (o.lst (o.lc (o.va 1) lNil))) (o.bo 0))))))) 2)) sNil)) (o.sq (o.rt (o.f (o.eo (oSortK (fun d => (eO (oRev (eVarB 0))) [(.val d)]) (o.eo (o.cm (o.il (o.va 2)) 1 [] (o.gn 0) (fun _ => some true) (o.ke (o.f (o.eo (o.ca (o.bo 0) (o.eo (o.lst (o.lc (eC (.int (.ofNat 1))) lNil))))))))))))) sNil)))
noncomputable def xm_law_monicT : Fs := (sSeqT (xAsg (xF (xO (xLst (xLC (xO (xLst lNil)) lNil)))) (xG pX2)) (sSeqT (xFor (xLF (xBO fRangeX (xLC vX0 lNil))) (xG pX3) (xSeq (xQF lX2 pX2 (xAO (xCm (xIL vX2) 2 [lX1] (xG pX0) (fun _ => some true) (xKG (xLF (xBO fRangeX (xLC vX2 lNil))) (xG pX1) (fun _ => some true) (xKE (xF (xO (xCat (xO (xLst (xLC vX1 lNil))) bX0)))))) pX2)) sNil)) (xSeq (xRet (xF (xO (oSortK (fun d => (eO (oRev (eVarB 0))) [(.val d)]) (xO (xCm (xIL vX2) 1 [] (xG pX0) (fun _ => some true) (xKE (xF (xO (xCat bX0 (xO (xLst (xLC (eC (.int (.ofNat 1))) lNil))))))))))))) sNil)))
theorem xxm_law_monicT : m_law_monicT = xm_law_monicT := by
  have h1 : m_law_monicT = gm_law_monicT slowO  := by kernel_rfl
  have h2 : xm_law_monicT = gm_law_monicT fastO  := by kernel_rfl
  rw [h1, h2, ops_eq]
noncomputable def X_law_monicT : List D → Option D := xBd xm_law_monicT ["degree", "p"] ["degree", "p", "rows", "turn"]
theorem FX_law_monicT : F_law_monicT = X_law_monicT := by
  have h1 : F_law_monicT = slowO.bd m_law_monicT ["degree", "p"] ["degree", "p", "rows", "turn"] := by kernel_rfl
  have h2 : X_law_monicT = fastO.bd xm_law_monicT ["degree", "p"] ["degree", "p", "rows", "turn"] := by kernel_rfl
  rw [h1, h2, ops_eq, xxm_law_monicT]
noncomputable def gm_law_primes (o : Ops) (f_law_monic : List D → Option D) (f_law_times : List D → Option D) : Fs := (o.sq (o.asg (o.f (o.eo (o.lst lNil))) (o.gn 2)) (o.sq (o.fo (o.rng (o.lc (eC (.int (.ofNat 1))) (o.lc (o.add (o.va 0) (eC (.int (.ofNat 1)))) lNil))) (o.gn 3) (o.sq (o.asg (o.f (o.eo (o.cm (o.rng (o.lc (eC (.int (.ofNat 1))) (o.lc (o.add (o.div (o.va 3) (eC (.int (.ofNat 2)))) (eC (.int (.ofNat 1)))) lNil))) 3 [1, 3] (o.gn 0) (fun _ => some true) (o.kg (o.il (o.bl f_law_monic (o.lc (o.va 0) (o.lc (o.va 3) lNil)))) (o.gn 1) (fun _ => some true) (o.kg (o.il (o.bl f_law_monic (o.lc (o.sub (o.va 4) (o.va 0)) (o.lc (o.va 3) lNil)))) (o.gn 2) (fun _ => some true) (o.ke (o.bl f_law_times (o.lc (o.va 1) (o.lc (o.va 2) (o.lc (o.va 3) lNil)))))))))) (o.gn 4)) (o.sq (o.asg (o.f (o.eo (o.ca (o.bo 2) (o.eo (o.cm (o.il (o.bl f_law_monic (o.lc (o.va 3) (o.lc (o.va 1) lNil)))) 1 [4] (o.gn 0) (o.tt (o.b2 dNotIn (o.va 0) (o.va 1))) (o.ke (o.va 0))))))) (o.gn 2)) sNil))) (o.sq (o.rt (o.va 2)) sNil)))
noncomputable def xm_law_primes : Fs := (xSeq (xAsg (xF (xO (xLst lNil))) (xG pX2)) (xSeq (xFor (xLF (xBO fRangeX (xLC (eC (.int (.ofNat 1))) (xLC (xAdd vX0 (eC (.int (.ofNat 1)))) lNil)))) (xG pX3) (xSeq (xAsg (xF (xO (xCm (xLF (xBO fRangeX (xLC (eC (.int (.ofNat 1))) (xLC (xAdd (xDiv vX3 (eC (.int (.ofNat 2)))) (eC (.int (.ofNat 1)))) lNil)))) 3 [lX1, lX3] (xG pX0) (fun _ => some true) (xKG (xIL (xBL X_law_monic (xLC vX0 (xLC vX3 lNil)))) (xG pX1) (fun _ => some true) (xKG (xIL (xBL X_law_monic (xLC (xSub vX4 vX0) (xLC vX3 lNil)))) (xG pX2) (fun _ => some true) (xKE (xBL X_law_times (xLC vX1 (xLC vX2 (xLC vX3 lNil)))))))))) (xG pX4)) (xSeq (xAsg (xF (xO (xCat bX2 (xO (xCm (xIL (xBL X_law_monic (xLC vX3 (xLC vX1 lNil)))) 1 [lX4] (xG pX0) (xT (x2 dNotIn vX0 vX1)) (xKE vX0)))))) (xG pX2)) sNil))) (xSeq (xRet vX2) sNil)))
theorem xxm_law_primes : m_law_primes = xm_law_primes := by
  have h1 : m_law_primes = gm_law_primes slowO F_law_monic F_law_times := by kernel_rfl
  have h2 : xm_law_primes = gm_law_primes fastO X_law_monic X_law_times := by kernel_rfl
  rw [h1, h2, ops_eq, FX_law_monic, FX_law_times]
noncomputable def X_law_primes : List D → Option D := xBd xm_law_primes ["most", "p"] ["most", "p", "found", "degree", "products"]
theorem FX_law_primes : F_law_primes = X_law_primes := by
  have h1 : F_law_primes = slowO.bd m_law_primes ["most", "p"] ["most", "p", "found", "degree", "products"] := by kernel_rfl
  have h2 : X_law_primes = fastO.bd xm_law_primes ["most", "p"] ["most", "p", "found", "degree", "products"] := by kernel_rfl
  rw [h1, h2, ops_eq, xxm_law_primes]
noncomputable def gm_law_primesT (o : Ops) (f_never : List D → Option D) (f_law_times : List D → Option D) (f_law_monicT : List D → Option D) (f_law_monic : List D → Option D) : Fs := (sSeqT (o.asg (o.f (o.eo (o.lst lNil))) (o.gn 2)) (o.sq (sForT (o.rng (o.lc (eC (.int (.ofNat 1))) (o.lc (o.add (o.va 0) (eC (.int (.ofNat 1)))) lNil))) (o.gn 3) (sSeqT (o.asg (o.f (o.eo (o.cm (o.rng (o.lc (eC (.int (.ofNat 1))) (o.lc (o.add (o.div (o.va 3) (eC (.int (.ofNat 2)))) (eC (.int (.ofNat 1)))) lNil))) 3 [1, 3] (o.gn 0) (fun _ => some true) (o.kg (o.il (o.bl f_never (o.lc (o.va 0) (o.lc (o.va 3) lNil)))) (o.gn 1) (fun _ => some true) (o.kg (o.il (o.bl f_never (o.lc (o.sub (o.va 4) (o.va 0)) (o.lc (o.va 3) lNil)))) (o.gn 2) (fun _ => some true) (o.ke (o.bl f_law_times (o.lc (o.va 1) (o.lc (o.va 2) (o.lc (o.va 3) lNil)))))))))) (o.gn 4)) (o.sq (o.asg (o.f (o.eo (o.ca (o.bo 2) (o.eo (o.cm (o.il (o.bl f_law_monicT (o.lc (o.va 3) (o.lc (o.va 1) lNil)))) 1 [4] (o.gn 0) (o.tt (o.b2 dNotIn (o.va 0) (o.va 1))) (o.ke (o.va 0))))))) (o.gn 2)) sNil)) (o.sq (o.asg (o.f (o.eo (o.cm (o.rng (o.lc (eC (.int (.ofNat 1))) (o.lc (o.add (o.div (o.va 3) (eC (.int (.ofNat 2)))) (eC (.int (.ofNat 1)))) lNil))) 3 [1, 3] (o.gn 0) (fun _ => some true) (o.kg (o.il (o.bl f_law_monic (o.lc (o.va 0) (o.lc (o.va 3) lNil)))) (o.gn 1) (fun _ => some true) (o.kg (o.il (o.bl f_law_monic (o.lc (o.sub (o.va 4) (o.va 0)) (o.lc (o.va 3) lNil)))) (o.gn 2) (fun _ => some true) (o.ke (o.bl f_law_times (o.lc (o.va 1) (o.lc (o.va 2) (o.lc (o.va 3) lNil)))))))))) (o.gn 4)) (o.sq (o.asg (o.f (o.eo (o.ca (o.bo 2) (o.eo (o.cm (o.il (o.bl f_law_monic (o.lc (o.va 3) (o.lc (o.va 1) lNil)))) 1 [4] (o.gn 0) (o.tt (o.b2 dNotIn (o.va 0) (o.va 1))) (o.ke (o.va 0))))))) (o.gn 2)) sNil))) (o.sq (o.rt (o.va 2)) sNil)))
noncomputable def xm_law_primesT : Fs := (sSeqT (xAsg (xF (xO (xLst lNil))) (xG pX2)) (xSeq (sForT (xLF (xBO fRangeX (xLC (eC (.int (.ofNat 1))) (xLC (xAdd vX0 (eC (.int (.ofNat 1)))) lNil)))) (xG pX3) (sSeqT (xAsg (xF (xO (xCm (xLF (xBO fRangeX (xLC (eC (.int (.ofNat 1))) (xLC (xAdd (xDiv vX3 (eC (.int (.ofNat 2)))) (eC (.int (.ofNat 1)))) lNil)))) 3 [lX1, lX3] (xG pX0) (fun _ => some true) (xKG (xIL (xBL X_never (xLC vX0 (xLC vX3 lNil)))) (xG pX1) (fun _ => some true) (xKG (xIL (xBL X_never (xLC (xSub vX4 vX0) (xLC vX3 lNil)))) (xG pX2) (fun _ => some true) (xKE (xBL X_law_times (xLC vX1 (xLC vX2 (xLC vX3 lNil)))))))))) (xG pX4)) (xSeq (xAsg (xF (xO (xCat bX2 (xO (xCm (xIL (xBL X_law_monicT (xLC vX3 (xLC vX1 lNil)))) 1 [lX4] (xG pX0) (xT (x2 dNotIn vX0 vX1)) (xKE vX0)))))) (xG pX2)) sNil)) (xSeq (xAsg (xF (xO (xCm (xLF (xBO fRangeX (xLC (eC (.int (.ofNat 1))) (xLC (xAdd (xDiv vX3 (eC (.int (.ofNat 2)))) (eC (.int (.ofNat 1)))) lNil)))) 3 [lX1, lX3] (xG pX0) (fun _ => some true) (xKG (xIL (xBL X_law_monic (xLC vX0 (xLC vX3 lNil)))) (xG pX1) (fun _ => some true) (xKG (xIL (xBL X_law_monic (xLC (xSub vX4 vX0) (xLC vX3 lNil)))) (xG pX2) (fun _ => some true) (xKE (xBL X_law_times (xLC vX1 (xLC vX2 (xLC vX3 lNil)))))))))) (xG pX4)) (xSeq (xAsg (xF (xO (xCat bX2 (xO (xCm (xIL (xBL X_law_monic (xLC vX3 (xLC vX1 lNil)))) 1 [lX4] (xG pX0) (xT (x2 dNotIn vX0 vX1)) (xKE vX0)))))) (xG pX2)) sNil))) (xSeq (xRet vX2) sNil)))
theorem xxm_law_primesT : m_law_primesT = xm_law_primesT := by
  have h1 : m_law_primesT = gm_law_primesT slowO F_never F_law_times F_law_monicT F_law_monic := by kernel_rfl
  have h2 : xm_law_primesT = gm_law_primesT fastO X_never X_law_times X_law_monicT X_law_monic := by kernel_rfl
  rw [h1, h2, ops_eq, FX_never, FX_law_times, FX_law_monicT, FX_law_monic]
noncomputable def X_law_primesT : List D → Option D := xBd xm_law_primesT ["most", "p"] ["most", "p", "found", "degree", "products"]
theorem FX_law_primesT : F_law_primesT = X_law_primesT := by
  have h1 : F_law_primesT = slowO.bd m_law_primesT ["most", "p"] ["most", "p", "found", "degree", "products"] := by kernel_rfl
  have h2 : X_law_primesT = fastO.bd xm_law_primesT ["most", "p"] ["most", "p", "found", "degree", "products"] := by kernel_rfl
  rw [h1, h2, ops_eq, xxm_law_primesT]
noncomputable def gm_l3 (o : Ops)  : Fs := (o.asg (o.f (o.eo (o.ca (o.eo (o.ca (o.eo (o.lst (o.lc (eC (.int (.ofNat 0))) (o.lc (o.sub (o.va 1) (eC (.int (.ofNat 1)))) lNil)))) (o.eo (oRep (o.eo (o.lst (o.lc (eC (.int (.ofNat 0))) lNil))) (o.sub (o.b2 dPow (o.va 1) (o.va 2)) (eC (.int (.ofNat 2)))))))) (o.eo (o.lst (o.lc (eC (.int (.ofNat 1))) lNil)))))) (o.gn 3))
noncomputable def xm_l3 : Fs := (xAsg (xF (xO (xCat (xO (xCat (xO (xLst (xLC (eC (.int (.ofNat 0))) (xLC (xSub vX1 (eC (.int (.ofNat 1)))) lNil)))) (xO (oRep (xO (xLst (xLC (eC (.int (.ofNat 0))) lNil))) (xSub (x2 dPow vX1 vX2) (eC (.int (.ofNat 2)))))))) (xO (xLst (xLC (eC (.int (.ofNat 1))) lNil)))))) (xG pX3))
theorem xxm_l3 : m_l3 = xm_l3 := by
  have h1 : m_l3 = gm_l3 slowO  := by kernel_rfl
  have h2 : xm_l3 = gm_l3 fastO  := by kernel_rfl
  rw [h1, h2, ops_eq]
noncomputable def gm_l4 (o : Ops) (f_law_primesT : List D → Option D) : Fs := (o.qf 4 (o.ao (o.cm (o.il (o.bl f_law_primesT (o.lc (o.va 2) (o.lc (o.va 1) lNil)))) 1 [2] (o.gn 0) (o.eq (o.mod (o.va 1) (o.sub (o.len (o.bo 0)) (eC (.int (.ofNat 1))))) (eC (.int (.ofNat 0)))) (o.ke (o.va 0))) 4))
noncomputable def xm_l4 : Fs := (xQF lX4 pX4 (xAO (xCm (xIL (xBL X_law_primesT (xLC vX2 (xLC vX1 lNil)))) 1 [lX2] (xG pX0) (xEq (xMod vX1 (xSub (xLen bX0) (eC (.int (.ofNat 1))))) (eC (.int (.ofNat 0)))) (xKE vX0)) pX4))
theorem xxm_l4 : m_l4 = xm_l4 := by
  have h1 : m_l4 = gm_l4 slowO F_law_primesT := by kernel_rfl
  have h2 : xm_l4 = gm_l4 fastO X_law_primesT := by kernel_rfl
  rw [h1, h2, ops_eq, FX_law_primesT]
noncomputable def gm_l5 (o : Ops) (f_mfactor : List D → Option D) (f_count_factors : List D → Option D) : Fs := (o.si (tOr (o.ne (o.bl f_mfactor (o.lc (o.va 3) (o.lc (o.va 1) lNil))) (o.tp1 (o.lc (eC (.int (.ofNat 1))) (o.lc (o.eo (o.cm (o.il (o.va 4)) 1 [] (o.gn 0) (fun _ => some true) (o.ke (o.f (o.tp1 (o.lc (o.va 0) (o.lc (eC (.int (.ofNat 1))) lNil))))))) lNil)))) (o.ne (o.bl f_count_factors (o.lc (o.va 3) (o.lc (o.va 1) lNil))) (o.len (o.bo 4)))) (o.sq (o.rt (eC (.bool false))) sNil) sNil)
noncomputable def xm_l5 : Fs := (xSI (tOr (xNe (xBL X_mfactor (xLC vX3 (xLC vX1 lNil))) (xTup (xLC (eC (.int (.ofNat 1))) (xLC (xO (xCm (xIL vX4) 1 [] (xG pX0) (fun _ => some true) (xKE (xF (xTup (xLC vX0 (xLC (eC (.int (.ofNat 1))) lNil))))))) lNil)))) (xNe (xBL X_count_factors (xLC vX3 (xLC vX1 lNil))) (xLen bX4))) (xSeq (xRet (eC (.bool false))) sNil) sNil)
theorem xxm_l5 : m_l5 = xm_l5 := by
  have h1 : m_l5 = gm_l5 slowO F_mfactor F_count_factors := by kernel_rfl
  have h2 : xm_l5 = gm_l5 fastO X_mfactor X_count_factors := by kernel_rfl
  rw [h1, h2, ops_eq, FX_mfactor, FX_count_factors]
noncomputable def gm_l6 (o : Ops) (f_law_primes : List D → Option D) (f_count_prime_polys : List D → Option D) (f_first_prime_poly : List D → Option D) (f_law_monic : List D → Option D) (f_is_prime_mod : List D → Option D) : Fs := (o.fo (o.rng (o.lc (eC (.int (.ofNat 1))) (o.lc (o.add (o.va 2) (eC (.int (.ofNat 1)))) lNil))) (o.gn 5) (o.sq (o.asg (o.f (o.eo (o.cm (o.il (o.bl f_law_primes (o.lc (o.va 2) (o.lc (o.va 1) lNil)))) 1 [5] (o.gn 0) (o.eq (o.len (o.bo 0)) (o.add (o.va 1) (eC (.int (.ofNat 1))))) (o.ke (o.va 0))))) (o.gn 6)) (o.sq (o.si (tOr (o.ne (o.len (o.bo 6)) (o.bl f_count_prime_polys (o.lc (o.va 1) (o.lc (o.va 5) lNil)))) (o.ne (o.idx (o.bo 6) (eC (.int (.ofNat 0)))) (o.bl f_first_prime_poly (o.lc (o.va 1) (o.lc (o.va 5) lNil))))) (o.sq (o.rt (eC (.bool false))) sNil) sNil) (o.sq (o.si (o.ne (o.eo (o.cm (o.il (o.bl f_law_monic (o.lc (o.va 5) (o.lc (o.va 1) lNil)))) 1 [1, 6] (o.gn 0) (o.ne (o.bl f_is_prime_mod (o.lc (o.va 0) (o.lc (o.va 1) lNil))) (o.b2 dIn (o.va 0) (o.va 2))) (o.ke (o.va 0)))) (o.eo (o.lst lNil))) (o.sq (o.rt (eC (.bool false))) sNil) sNil) sNil))))
noncomputable def xm_l6 : Fs := (xFor (xLF (xBO fRangeX (xLC (eC (.int (.ofNat 1))) (xLC (xAdd vX2 (eC (.int (.ofNat 1)))) lNil)))) (xG pX5) (xSeq (xAsg (xF (xO (xCm (xIL (xBL X_law_primes (xLC vX2 (xLC vX1 lNil)))) 1 [lX5] (xG pX0) (xEq (xLen bX0) (xAdd vX1 (eC (.int (.ofNat 1))))) (xKE vX0)))) (xG pX6)) (xSeq (xSI (tOr (xNe (xLen bX6) (xBL X_count_prime_polys (xLC vX1 (xLC vX5 lNil)))) (xNe (xIdx bX6 (eC (.int (.ofNat 0)))) (xBL X_first_prime_poly (xLC vX1 (xLC vX5 lNil))))) (xSeq (xRet (eC (.bool false))) sNil) sNil) (xSeq (xSI (xNe (xO (xCm (xIL (xBL X_law_monic (xLC vX5 (xLC vX1 lNil)))) 1 [lX1, lX6] (xG pX0) (xNe (xBL X_is_prime_mod (xLC vX0 (xLC vX1 lNil))) (x2 dIn vX0 vX2)) (xKE vX0))) (xO (xLst lNil))) (xSeq (xRet (eC (.bool false))) sNil) sNil) sNil))))
theorem xxm_l6 : m_l6 = xm_l6 := by
  have h1 : m_l6 = gm_l6 slowO F_law_primes F_count_prime_polys F_first_prime_poly F_law_monic F_is_prime_mod := by kernel_rfl
  have h2 : xm_l6 = gm_l6 fastO X_law_primes X_count_prime_polys X_first_prime_poly X_law_monic X_is_prime_mod := by kernel_rfl
  rw [h1, h2, ops_eq, FX_law_primes, FX_count_prime_polys, FX_first_prime_poly, FX_law_monic, FX_is_prime_mod]
noncomputable def gm_l7 (o : Ops) (f_distinct_degrees : List D → Option D) : Fs := (o.asg (o.bl f_distinct_degrees (o.lc (o.va 3) (o.lc (o.va 1) lNil))) (o.gn 7))
noncomputable def xm_l7 : Fs := (xAsg (xBL X_distinct_degrees (xLC vX3 (xLC vX1 lNil))) (xG pX7))
theorem xxm_l7 : m_l7 = xm_l7 := by
  have h1 : m_l7 = gm_l7 slowO F_distinct_degrees := by kernel_rfl
  have h2 : xm_l7 = gm_l7 fastO X_distinct_degrees := by kernel_rfl
  rw [h1, h2, ops_eq, FX_distinct_degrees]
noncomputable def gm_l8 (o : Ops)  : Fs := (o.si (o.ne (o.eo (o.cm (o.il (o.va 7)) 2 [] (o.gtp [0, 1]) (fun _ => some true) (o.ke (o.va 1)))) (o.eo (o.cm (o.rng (o.lc (eC (.int (.ofNat 1))) (o.lc (o.add (o.va 2) (eC (.int (.ofNat 1)))) lNil))) 1 [2] (o.gn 0) (o.eq (o.mod (o.va 1) (o.va 0)) (eC (.int (.ofNat 0)))) (o.ke (o.va 0))))) (o.sq (o.rt (eC (.bool false))) sNil) sNil)
noncomputable def xm_l8 : Fs := (xSI (xNe (xO (xCm (xIL vX7) 2 [] (xGT [pX0, pX1]) (fun _ => some true) (xKE vX1))) (xO (xCm (xLF (xBO fRangeX (xLC (eC (.int (.ofNat 1))) (xLC (xAdd vX2 (eC (.int (.ofNat 1)))) lNil)))) 1 [lX2] (xG pX0) (xEq (xMod vX1 vX0) (eC (.int (.ofNat 0)))) (xKE vX0)))) (xSeq (xRet (eC (.bool false))) sNil) sNil)
theorem xxm_l8 : m_l8 = xm_l8 := by
  have h1 : m_l8 = gm_l8 slowO  := by kernel_rfl
  have h2 : xm_l8 = gm_l8 fastO  := by kernel_rfl
  rw [h1, h2, ops_eq]
noncomputable def gm_l9 (o : Ops) (f_mproduct : List D → Option D) : Fs := (o.fo (o.il (o.va 7)) (o.gtp [8, 5]) (o.sq (o.si (o.ne (o.va 8) (o.bl f_mproduct (o.lc (o.eo (o.cm (o.il (o.va 4)) 1 [5] (o.gn 0) (o.eq (o.len (o.bo 0)) (o.add (o.va 1) (eC (.int (.ofNat 1))))) (o.ke (o.va 0)))) (o.lc (o.va 1) lNil)))) (o.sq (o.rt (eC (.bool false))) sNil) sNil) sNil))
noncomputable def xm_l9 : Fs := (xFor (xIL vX7) (xGT [pX8, pX5]) (xSeq (xSI (xNe vX8 (xBL X_mproduct (xLC (xO (xCm (xIL vX4) 1 [lX5] (xG pX0) (xEq (xLen bX0) (xAdd vX1 (eC (.int (.ofNat 1))))) (xKE vX0))) (xLC vX1 lNil)))) (xSeq (xRet (eC (.bool false))) sNil) sNil) sNil))
theorem xxm_l9 : m_l9 = xm_l9 := by
  have h1 : m_l9 = gm_l9 slowO F_mproduct := by kernel_rfl
  have h2 : xm_l9 = gm_l9 fastO X_mproduct := by kernel_rfl
  rw [h1, h2, ops_eq, FX_mproduct]
noncomputable def gm_l10 (o : Ops) (f_first_prime_poly : List D → Option D) : Fs := (o.asg (o.bl f_first_prime_poly (o.lc (o.va 1) (o.lc (o.va 2) lNil))) (o.gn 9))
noncomputable def xm_l10 : Fs := (xAsg (xBL X_first_prime_poly (xLC vX1 (xLC vX2 lNil))) (xG pX9))
theorem xxm_l10 : m_l10 = xm_l10 := by
  have h1 : m_l10 = gm_l10 slowO F_first_prime_poly := by kernel_rfl
  have h2 : xm_l10 = gm_l10 fastO X_first_prime_poly := by kernel_rfl
  rw [h1, h2, ops_eq, FX_first_prime_poly]
noncomputable def gm_l11 (o : Ops) (f_gf_things : List D → Option D) (f_gf_at : List D → Option D) : Fs := (o.qf 10 (o.ao (o.cm (o.il (o.va 4)) 1 [9, 1] (o.gn 0) (fun _ => some true) (o.ke (o.f (o.eo (o.cm (o.il (o.bl f_gf_things (o.lc (o.va 1) (o.lc (o.va 2) lNil)))) 1 [0, 1, 2] (o.gn 0) (o.eq (o.bl f_gf_at (o.lc (o.va 1) (o.lc (o.va 0) (o.lc (o.va 2) (o.lc (o.va 3) lNil))))) (o.eo (o.lst lNil))) (o.ke (o.va 0))))))) 10))
noncomputable def xm_l11 : Fs := (xQF lX10 pX10 (xAO (xCm (xIL vX4) 1 [lX9, lX1] (xG pX0) (fun _ => some true) (xKE (xF (xO (xCm (xIL (xBL X_gf_things (xLC vX1 (xLC vX2 lNil)))) 1 [lX0, lX1, lX2] (xG pX0) (xEq (xBL X_gf_at (xLC vX1 (xLC vX0 (xLC vX2 (xLC vX3 lNil))))) (xO (xLst lNil))) (xKE vX0)))))) pX10))
theorem xxm_l11 : m_l11 = xm_l11 := by
  have h1 : m_l11 = gm_l11 slowO F_gf_things F_gf_at := by kernel_rfl
  have h2 : xm_l11 = gm_l11 fastO X_gf_things X_gf_at := by kernel_rfl
  rw [h1, h2, ops_eq, FX_gf_things, FX_gf_at]
noncomputable def gm_l12 (o : Ops)  : Fs := (o.si (o.ne (o.eo (o.cm (o.il (o.va 10)) 1 [] (o.gn 0) (fun _ => some true) (o.ke (o.len (o.bo 0))))) (o.eo (o.cm (o.il (o.va 4)) 1 [] (o.gn 0) (fun _ => some true) (o.ke (o.f (o.sub (o.len (o.bo 0)) (eC (.int (.ofNat 1))))))))) (o.sq (o.rt (eC (.bool false))) sNil) sNil)
noncomputable def xm_l12 : Fs := (xSI (xNe (xO (xCm (xIL vX10) 1 [] (xG pX0) (fun _ => some true) (xKE (xLen bX0)))) (xO (xCm (xIL vX4) 1 [] (xG pX0) (fun _ => some true) (xKE (xF (xSub (xLen bX0) (eC (.int (.ofNat 1))))))))) (xSeq (xRet (eC (.bool false))) sNil) sNil)
theorem xxm_l12 : m_l12 = xm_l12 := by
  have h1 : m_l12 = gm_l12 slowO  := by kernel_rfl
  have h2 : xm_l12 = gm_l12 fastO  := by kernel_rfl
  rw [h1, h2, ops_eq]
noncomputable def gm_l13 (o : Ops) (f_gf_things : List D → Option D) : Fs := (o.si (o.ne (o.eo (o.blo fSort1 (o.lc (o.bl fSum (o.lc (o.va 10) (o.lc (o.eo (o.lst lNil)) lNil))) lNil))) (o.eo (o.blo fSort1 (o.lc (o.bl f_gf_things (o.lc (o.va 9) (o.lc (o.va 1) lNil))) lNil)))) (o.sq (o.rt (eC (.bool false))) sNil) sNil)
noncomputable def xm_l13 : Fs := (xSI (xNe (xO (xBO fSort1 (xLC (xBL fSum (xLC vX10 (xLC (xO (xLst lNil)) lNil))) lNil))) (xO (xBO fSort1 (xLC (xBL X_gf_things (xLC vX9 (xLC vX1 lNil))) lNil)))) (xSeq (xRet (eC (.bool false))) sNil) sNil)
theorem xxm_l13 : m_l13 = xm_l13 := by
  have h1 : m_l13 = gm_l13 slowO F_gf_things := by kernel_rfl
  have h2 : xm_l13 = gm_l13 fastO X_gf_things := by kernel_rfl
  rw [h1, h2, ops_eq, FX_gf_things]
noncomputable def gm_l16 (o : Ops) (f_mfactor : List D → Option D) (f_mproduct : List D → Option D) : Fs := (o.rt (o.f (o.b2 dEq (o.idx (o.bl f_mfactor (o.lc (o.bl f_mproduct (o.lc (o.eo (o.ca (o.eo (oRep (o.eo (o.lst (o.lc (o.va 3) lNil))) (o.va 12))) (o.eo (o.lst (o.lc (o.eo (o.lst (o.lc (eC (.int (.ofNat 0))) (o.lc (eC (.int (.ofNat 1))) lNil)))) lNil))))) (o.lc (o.va 1) lNil))) (o.lc (o.va 1) lNil))) (eC (.int (.ofNat 1)))) (o.eo (o.cm (o.il (o.va 4)) 1 [12] (o.gn 0) (fun _ => some true) (o.ke (o.f (o.tp1 (o.lc (o.va 0) (o.lc (o.add (o.va 1) (o.bl fInt (o.lc (o.b2 dEq (o.va 0) (o.eo (o.lst (o.lc (eC (.int (.ofNat 0))) (o.lc (eC (.int (.ofNat 1))) lNil))))) lNil))) lNil))))))))))
noncomputable def xm_l16 : Fs := (xRet (xF (x2 dEq (xIdx (xBL X_mfactor (xLC (xBL X_mproduct (xLC (xO (xCat (xO (oRep (xO (xLst (xLC vX3 lNil))) vX12)) (xO (xLst (xLC (xO (xLst (xLC (eC (.int (.ofNat 0))) (xLC (eC (.int (.ofNat 1))) lNil)))) lNil))))) (xLC vX1 lNil))) (xLC vX1 lNil))) (eC (.int (.ofNat 1)))) (xO (xCm (xIL vX4) 1 [lX12] (xG pX0) (fun _ => some true) (xKE (xF (xTup (xLC vX0 (xLC (xAdd vX1 (xBL fInt (xLC (x2 dEq vX0 (xO (xLst (xLC (eC (.int (.ofNat 0))) (xLC (eC (.int (.ofNat 1))) lNil))))) lNil))) lNil))))))))))
theorem xxm_l16 : m_l16 = xm_l16 := by
  have h1 : m_l16 = gm_l16 slowO F_mfactor F_mproduct := by kernel_rfl
  have h2 : xm_l16 = gm_l16 fastO X_mfactor X_mproduct := by kernel_rfl
  rw [h1, h2, ops_eq, FX_mfactor, FX_mproduct]
noncomputable def gt_l15 (o : Ops)  : Ft := (o.lt (o.len (o.bo 3)) (eC (.int (.ofNat 7))))
noncomputable def xt_l15 : Ft := (xLt (xLen bX3) (eC (.int (.ofNat 7))))
theorem xxt_l15 : t_l15 = xt_l15 := by
  have h1 : t_l15 = gt_l15 slowO  := by kernel_rfl
  have h2 : xt_l15 = gt_l15 fastO  := by kernel_rfl
  rw [h1, h2, ops_eq]
noncomputable def gm_shared (o : Ops) (f_mrest : List D → Option D) (f_mgcd : List D → Option D) (f_mproduct : List D → Option D) : Fs := (o.sq (o.qf 4 (o.ao (o.cm (o.il (o.va 1)) 1 [3, 2] (o.gn 0) (o.eq (o.bl f_mrest (o.lc (o.va 1) (o.lc (o.va 0) (o.lc (o.va 2) lNil)))) (o.eo (o.lst lNil))) (o.ke (o.va 0))) 4)) (o.sq (o.rt (o.f (o.b2 dEq (o.bl f_mgcd (o.lc (o.va 0) (o.lc (o.va 3) (o.lc (o.va 2) lNil)))) (o.bl f_mproduct (o.lc (o.va 4) (o.lc (o.va 2) lNil)))))) sNil))
noncomputable def xm_shared : Fs := (xSeq (xQF lX4 pX4 (xAO (xCm (xIL vX1) 1 [lX3, lX2] (xG pX0) (xEq (xBL X_mrest (xLC vX1 (xLC vX0 (xLC vX2 lNil)))) (xO (xLst lNil))) (xKE vX0)) pX4)) (xSeq (xRet (xF (x2 dEq (xBL X_mgcd (xLC vX0 (xLC vX3 (xLC vX2 lNil)))) (xBL X_mproduct (xLC vX4 (xLC vX2 lNil)))))) sNil))
theorem xxm_shared : m_shared = xm_shared := by
  have h1 : m_shared = gm_shared slowO F_mrest F_mgcd F_mproduct := by kernel_rfl
  have h2 : xm_shared = gm_shared fastO X_mrest X_mgcd X_mproduct := by kernel_rfl
  rw [h1, h2, ops_eq, FX_mrest, FX_mgcd, FX_mproduct]
end Pf

namespace Pf
open PySem PySem.Calls PyProof.Rows PySem.W
theorem chk_of {w du : D} {p : Nat} (h : ∀ a, a < p → ((List.range p).all fun b => (List.range p).all fun c => sharedChk w du p [a, b, c]) = true) : ∀ cs : List Nat, cs.length = 3 → (∀ c ∈ cs, c < p) → sharedChk w du p cs = true := by
  intro cs hl hc
  match cs, hl with
  | [a, b, c], _ =>
    have h1 := h a (hc a (by simp))
    have h2 := List.all_eq_true.mp h1 b (List.mem_range.mpr (hc b (by simp)))
    exact List.all_eq_true.mp h2 c (List.mem_range.mpr (hc c (by simp)))
theorem on_fs {m x : Fs} {σ : St} {r : Fr} (e : m = x) (h : x σ = r) : m σ = r := e ▸ h
theorem on_ft {m x : Ft} {σ : St} {r : Option Bool} (e : m = x) (h : x σ = r) : m σ = r := e ▸ h
noncomputable def trueR (r : Fr) : Bool := @Option.rec (St × Option D) (fun _ => Bool) false (fun q => @Prod.rec St (Option D) (fun _ => Bool) (fun _ r => @Option.rec D (fun _ => Bool) false (fun d => @PyData.rec (fun _ => Bool) (fun _ => Unit) (fun _ => Unit) (fun _ => Unit) false (fun b => b) (fun _ => false) (fun _ => false) (fun _ _ => false) (fun _ _ => false) (fun _ _ => false) () (fun _ _ _ _ => ()) () (fun _ _ _ _ => ()) (fun _ _ _ _ => ()) d) r) q) r
theorem trueR_eq (r : Fr) (h : trueR r = true) : ∃ σ, r = some (σ, some (.bool true)) := by
  rcases r with _ | ⟨σ, _ | d⟩
  · cases h
  · cases h
  · cases d with
    | bool b => exact ⟨σ, by rw [show b = true from h]⟩
    | _ => cases h
theorem on_16 {σ : St} (h : trueR (xm_l16 σ) = true) : r16 σ = true := by
  obtain ⟨σ', e⟩ := trueR_eq _ h
  unfold r16
  rw [xxm_l16, e]
/-- the drawn cubics with a first number a, in turn -/
noncomputable def allN (n : Nat) (f : Nat → Bool) : Bool := @Nat.rec (fun _ => Bool) true (fun k ih => kBool (f k) ih false) n
theorem allN_eq {n : Nat} {f : Nat → Bool} (h : allN n f = true) : ∀ k, k < n → f k = true := by
  induction n with
  | zero => intro k hk; omega
  | succ n ih =>
    intro k hk
    have h' : kBool (f n) (allN n f) false = true := h
    cases e : f n with
    | false => rw [e] at h'; cases h'
    | true =>
      rw [e] at h'
      by_cases z : k = n
      · rw [z]; exact e
      · exact ih h' k (by omega)
noncomputable def shX (w du : D) (p a b c : Nat) : Bool := trueR (xm_shared [.val w, .val du, .val (.int (.ofNat p)), .val (.list [.int (.ofNat a), .int (.ofNat b), .int (.ofNat c), .int (.ofNat 1)]), .un, .un])
theorem on_sh {w du : D} {p a : Nat} (h : allN p (fun b => allN p fun c => shX w du p a b c) = true) : ((List.range p).all fun b => (List.range p).all fun c => sharedChk w du p [a, b, c]) = true := by
  refine List.all_eq_true.mpr fun b hb => List.all_eq_true.mpr fun c hc => ?_
  obtain ⟨σ', e⟩ := trueR_eq _ (allN_eq (allN_eq h b (List.mem_range.mp hb)) c (List.mem_range.mp hc))
  unfold sharedChk
  rw [xxm_shared]
  show (match xm_shared [.val w, .val du, .val (.int (.ofNat p)), .val (.list [.int (.ofNat a), .int (.ofNat b), .int (.ofNat c), .int (.ofNat 1)]), .un, .un] with | some (_, some (.bool true)) => true | _ => false) = true
  rw [e]
noncomputable def whole21 : D := .list [(.int (.ofNat 0)), (.int (.ofNat 1)), (.int (.ofNat 1))]
noncomputable def s21_3 : St := [.un, (.val (.int 2)), (.val (.int 1)), (.val whole21), .un, .un, .un, .un, .un, .un, .un, .un, .un, .un]
theorem e21_3 : m_l3 (st0 2 1) = some (s21_3, none) := on_fs xxm_l3 (by kernel_rfl)
noncomputable def due21 : D := .list [(.list [(.int (.ofNat 0)), (.int (.ofNat 1))]), (.list [(.int (.ofNat 1)), (.int (.ofNat 1))])]
noncomputable def s21_4 : St := [.un, (.val (.int 2)), (.val (.int 1)), (.val whole21), (.val due21), .un, .un, .un, .un, .un, .un, .un, .un, .un]
theorem e21_4 : m_l4 s21_3 = some (s21_4, none) := on_fs xxm_l4 (by kernel_rfl)
theorem e21_5 : m_l5 s21_4 = some (s21_4, none) := on_fs xxm_l5 (by kernel_rfl)
noncomputable def some21 : D := .list [(.list [(.int (.ofNat 0)), (.int (.ofNat 1))]), (.list [(.int (.ofNat 1)), (.int (.ofNat 1))])]
noncomputable def s21_6 : St := [.un, (.val (.int 2)), (.val (.int 1)), (.val whole21), (.val due21), (.val (.int 1)), (.val some21), .un, .un, .un, .un, .un, .un, .un]
theorem e21_6 : m_l6 s21_4 = some (s21_6, none) := on_fs xxm_l6 (by kernel_rfl)
noncomputable def told21 : D := .list [(.tuple [(.list [(.int (.ofNat 0)), (.int (.ofNat 1)), (.int (.ofNat 1))]), (.int (.ofNat 1))])]
noncomputable def s21_7 : St := [.un, (.val (.int 2)), (.val (.int 1)), (.val whole21), (.val due21), (.val (.int 1)), (.val some21), (.val told21), .un, .un, .un, .un, .un, .un]
theorem e21_7 : m_l7 s21_6 = some (s21_7, none) := on_fs xxm_l7 (by kernel_rfl)
theorem e21_8 : m_l8 s21_7 = some (s21_7, none) := on_fs xxm_l8 (by kernel_rfl)
noncomputable def both21 : D := .list [(.int (.ofNat 0)), (.int (.ofNat 1)), (.int (.ofNat 1))]
noncomputable def s21_9 : St := [.un, (.val (.int 2)), (.val (.int 1)), (.val whole21), (.val due21), (.val (.int 1)), (.val some21), (.val told21), (.val both21), .un, .un, .un, .un, .un]
theorem e21_9 : m_l9 s21_7 = some (s21_9, none) := on_fs xxm_l9 (by kernel_rfl)
noncomputable def m21 : D := .list [(.int (.ofNat 0)), (.int (.ofNat 1))]
noncomputable def s21_10 : St := [.un, (.val (.int 2)), (.val (.int 1)), (.val whole21), (.val due21), (.val (.int 1)), (.val some21), (.val told21), (.val both21), (.val m21), .un, .un, .un, .un]
theorem e21_10 : m_l10 s21_9 = some (s21_10, none) := on_fs xxm_l10 (by kernel_rfl)
noncomputable def roots21 : D := .list [(.list [(.list [])]), (.list [(.list [(.int (.ofNat 1))])])]
noncomputable def s21_11 : St := [.un, (.val (.int 2)), (.val (.int 1)), (.val whole21), (.val due21), (.val (.int 1)), (.val some21), (.val told21), (.val both21), (.val m21), (.val roots21), .un, .un, .un]
theorem e21_11 : m_l11 s21_10 = some (s21_11, none) := on_fs xxm_l11 (by kernel_rfl)
theorem e21_12 : m_l12 s21_11 = some (s21_11, none) := on_fs xxm_l12 (by kernel_rfl)
theorem e21_13 : m_l13 s21_11 = some (s21_11, none) := on_fs xxm_l13 (by kernel_rfl)
noncomputable def z21 : St := (s21_11.set 11 (.val (.int 0))).set 11 (.val (.int 1))
theorem e21_15 : t_l15 z21 = some true := on_ft xxt_l15 (by kernel_rfl)
theorem e21_16_0 : r16 (z21.set 12 (.val (.int (1 + (0 : Nat))))) = true := on_16 (by kernel_rfl)
theorem e21_16_1 : r16 (z21.set 12 (.val (.int (1 + (1 : Nat))))) = true := on_16 (by kernel_rfl)
theorem e21_s0 : ((List.range 2).all fun b => (List.range 2).all fun c => sharedChk whole21 due21 2 [0, b, c]) = true := on_sh (by kernel_rfl)
theorem e21_s1 : ((List.range 2).all fun b => (List.range 2).all fun c => sharedChk whole21 due21 2 [1, b, c]) = true := on_sh (by kernel_rfl)
theorem pair21 : PairEx 2 1 := ⟨whole21, due21, s21_3, s21_4, s21_4, s21_6, s21_7, s21_7, s21_9, s21_10, s21_11, s21_11, s21_11, true, ⟨by decide, e21_3, e21_4, e21_5, e21_6, e21_7, e21_8, e21_9, e21_10, e21_11, e21_12, e21_13, rfl, rfl, rfl, chk_of fun a ha => (match a, ha with | 0, _ => e21_s0 | 1, _ => e21_s1 | n + 2, h => absurd h (by omega)), e21_15, fun r hr => (match r, hr with | 0, _ => e21_16_0 | 1, _ => e21_16_1 | n + 2, h => absurd (show n + 2 < 2 from h) (by omega))⟩⟩
noncomputable def whole22 : D := .list [(.int (.ofNat 0)), (.int (.ofNat 1)), (.int (.ofNat 0)), (.int (.ofNat 0)), (.int (.ofNat 1))]
noncomputable def s22_3 : St := [.un, (.val (.int 2)), (.val (.int 2)), (.val whole22), .un, .un, .un, .un, .un, .un, .un, .un, .un, .un]
theorem e22_3 : m_l3 (st0 2 2) = some (s22_3, none) := on_fs xxm_l3 (by kernel_rfl)
noncomputable def due22 : D := .list [(.list [(.int (.ofNat 0)), (.int (.ofNat 1))]), (.list [(.int (.ofNat 1)), (.int (.ofNat 1))]), (.list [(.int (.ofNat 1)), (.int (.ofNat 1)), (.int (.ofNat 1))])]
noncomputable def s22_4 : St := [.un, (.val (.int 2)), (.val (.int 2)), (.val whole22), (.val due22), .un, .un, .un, .un, .un, .un, .un, .un, .un]
theorem e22_4 : m_l4 s22_3 = some (s22_4, none) := on_fs xxm_l4 (by kernel_rfl)
theorem e22_5 : m_l5 s22_4 = some (s22_4, none) := on_fs xxm_l5 (by kernel_rfl)
noncomputable def some22 : D := .list [(.list [(.int (.ofNat 1)), (.int (.ofNat 1)), (.int (.ofNat 1))])]
noncomputable def s22_6 : St := [.un, (.val (.int 2)), (.val (.int 2)), (.val whole22), (.val due22), (.val (.int 2)), (.val some22), .un, .un, .un, .un, .un, .un, .un]
theorem e22_6 : m_l6 s22_4 = some (s22_6, none) := on_fs xxm_l6 (by kernel_rfl)
noncomputable def told22 : D := .list [(.tuple [(.list [(.int (.ofNat 0)), (.int (.ofNat 1)), (.int (.ofNat 1))]), (.int (.ofNat 1))]), (.tuple [(.list [(.int (.ofNat 1)), (.int (.ofNat 1)), (.int (.ofNat 1))]), (.int (.ofNat 2))])]
noncomputable def s22_7 : St := [.un, (.val (.int 2)), (.val (.int 2)), (.val whole22), (.val due22), (.val (.int 2)), (.val some22), (.val told22), .un, .un, .un, .un, .un, .un]
theorem e22_7 : m_l7 s22_6 = some (s22_7, none) := on_fs xxm_l7 (by kernel_rfl)
theorem e22_8 : m_l8 s22_7 = some (s22_7, none) := on_fs xxm_l8 (by kernel_rfl)
noncomputable def both22 : D := .list [(.int (.ofNat 1)), (.int (.ofNat 1)), (.int (.ofNat 1))]
noncomputable def s22_9 : St := [.un, (.val (.int 2)), (.val (.int 2)), (.val whole22), (.val due22), (.val (.int 2)), (.val some22), (.val told22), (.val both22), .un, .un, .un, .un, .un]
theorem e22_9 : m_l9 s22_7 = some (s22_9, none) := on_fs xxm_l9 (by kernel_rfl)
noncomputable def m22 : D := .list [(.int (.ofNat 1)), (.int (.ofNat 1)), (.int (.ofNat 1))]
noncomputable def s22_10 : St := [.un, (.val (.int 2)), (.val (.int 2)), (.val whole22), (.val due22), (.val (.int 2)), (.val some22), (.val told22), (.val both22), (.val m22), .un, .un, .un, .un]
theorem e22_10 : m_l10 s22_9 = some (s22_10, none) := on_fs xxm_l10 (by kernel_rfl)
noncomputable def roots22 : D := .list [(.list [(.list [])]), (.list [(.list [(.int (.ofNat 1))])]), (.list [(.list [(.int (.ofNat 0)), (.int (.ofNat 1))]), (.list [(.int (.ofNat 1)), (.int (.ofNat 1))])])]
noncomputable def s22_11 : St := [.un, (.val (.int 2)), (.val (.int 2)), (.val whole22), (.val due22), (.val (.int 2)), (.val some22), (.val told22), (.val both22), (.val m22), (.val roots22), .un, .un, .un]
theorem e22_11 : m_l11 s22_10 = some (s22_11, none) := on_fs xxm_l11 (by kernel_rfl)
theorem e22_12 : m_l12 s22_11 = some (s22_11, none) := on_fs xxm_l12 (by kernel_rfl)
theorem e22_13 : m_l13 s22_11 = some (s22_11, none) := on_fs xxm_l13 (by kernel_rfl)
noncomputable def z22 : St := (s22_11.set 11 (.val (.int 0))).set 11 (.val (.int 1))
theorem e22_15 : t_l15 z22 = some true := on_ft xxt_l15 (by kernel_rfl)
theorem e22_16_0 : r16 (z22.set 12 (.val (.int (1 + (0 : Nat))))) = true := on_16 (by kernel_rfl)
theorem e22_16_1 : r16 (z22.set 12 (.val (.int (1 + (1 : Nat))))) = true := on_16 (by kernel_rfl)
theorem e22_s0 : ((List.range 2).all fun b => (List.range 2).all fun c => sharedChk whole22 due22 2 [0, b, c]) = true := on_sh (by kernel_rfl)
theorem e22_s1 : ((List.range 2).all fun b => (List.range 2).all fun c => sharedChk whole22 due22 2 [1, b, c]) = true := on_sh (by kernel_rfl)
theorem pair22 : PairEx 2 2 := ⟨whole22, due22, s22_3, s22_4, s22_4, s22_6, s22_7, s22_7, s22_9, s22_10, s22_11, s22_11, s22_11, true, ⟨by decide, e22_3, e22_4, e22_5, e22_6, e22_7, e22_8, e22_9, e22_10, e22_11, e22_12, e22_13, rfl, rfl, rfl, chk_of fun a ha => (match a, ha with | 0, _ => e22_s0 | 1, _ => e22_s1 | n + 2, h => absurd h (by omega)), e22_15, fun r hr => (match r, hr with | 0, _ => e22_16_0 | 1, _ => e22_16_1 | n + 2, h => absurd (show n + 2 < 2 from h) (by omega))⟩⟩
noncomputable def whole31 : D := .list [(.int (.ofNat 0)), (.int (.ofNat 2)), (.int (.ofNat 0)), (.int (.ofNat 1))]
noncomputable def s31_3 : St := [.un, (.val (.int 3)), (.val (.int 1)), (.val whole31), .un, .un, .un, .un, .un, .un, .un, .un, .un, .un]
theorem e31_3 : m_l3 (st0 3 1) = some (s31_3, none) := on_fs xxm_l3 (by kernel_rfl)
noncomputable def due31 : D := .list [(.list [(.int (.ofNat 0)), (.int (.ofNat 1))]), (.list [(.int (.ofNat 1)), (.int (.ofNat 1))]), (.list [(.int (.ofNat 2)), (.int (.ofNat 1))])]
noncomputable def s31_4 : St := [.un, (.val (.int 3)), (.val (.int 1)), (.val whole31), (.val due31), .un, .un, .un, .un, .un, .un, .un, .un, .un]
theorem e31_4 : m_l4 s31_3 = some (s31_4, none) := on_fs xxm_l4 (by kernel_rfl)
theorem e31_5 : m_l5 s31_4 = some (s31_4, none) := on_fs xxm_l5 (by kernel_rfl)
noncomputable def some31 : D := .list [(.list [(.int (.ofNat 0)), (.int (.ofNat 1))]), (.list [(.int (.ofNat 1)), (.int (.ofNat 1))]), (.list [(.int (.ofNat 2)), (.int (.ofNat 1))])]
noncomputable def s31_6 : St := [.un, (.val (.int 3)), (.val (.int 1)), (.val whole31), (.val due31), (.val (.int 1)), (.val some31), .un, .un, .un, .un, .un, .un, .un]
theorem e31_6 : m_l6 s31_4 = some (s31_6, none) := on_fs xxm_l6 (by kernel_rfl)
noncomputable def told31 : D := .list [(.tuple [(.list [(.int (.ofNat 0)), (.int (.ofNat 2)), (.int (.ofNat 0)), (.int (.ofNat 1))]), (.int (.ofNat 1))])]
noncomputable def s31_7 : St := [.un, (.val (.int 3)), (.val (.int 1)), (.val whole31), (.val due31), (.val (.int 1)), (.val some31), (.val told31), .un, .un, .un, .un, .un, .un]
theorem e31_7 : m_l7 s31_6 = some (s31_7, none) := on_fs xxm_l7 (by kernel_rfl)
theorem e31_8 : m_l8 s31_7 = some (s31_7, none) := on_fs xxm_l8 (by kernel_rfl)
noncomputable def both31 : D := .list [(.int (.ofNat 0)), (.int (.ofNat 2)), (.int (.ofNat 0)), (.int (.ofNat 1))]
noncomputable def s31_9 : St := [.un, (.val (.int 3)), (.val (.int 1)), (.val whole31), (.val due31), (.val (.int 1)), (.val some31), (.val told31), (.val both31), .un, .un, .un, .un, .un]
theorem e31_9 : m_l9 s31_7 = some (s31_9, none) := on_fs xxm_l9 (by kernel_rfl)
noncomputable def m31 : D := .list [(.int (.ofNat 0)), (.int (.ofNat 1))]
noncomputable def s31_10 : St := [.un, (.val (.int 3)), (.val (.int 1)), (.val whole31), (.val due31), (.val (.int 1)), (.val some31), (.val told31), (.val both31), (.val m31), .un, .un, .un, .un]
theorem e31_10 : m_l10 s31_9 = some (s31_10, none) := on_fs xxm_l10 (by kernel_rfl)
noncomputable def roots31 : D := .list [(.list [(.list [])]), (.list [(.list [(.int (.ofNat 2))])]), (.list [(.list [(.int (.ofNat 1))])])]
noncomputable def s31_11 : St := [.un, (.val (.int 3)), (.val (.int 1)), (.val whole31), (.val due31), (.val (.int 1)), (.val some31), (.val told31), (.val both31), (.val m31), (.val roots31), .un, .un, .un]
theorem e31_11 : m_l11 s31_10 = some (s31_11, none) := on_fs xxm_l11 (by kernel_rfl)
theorem e31_12 : m_l12 s31_11 = some (s31_11, none) := on_fs xxm_l12 (by kernel_rfl)
theorem e31_13 : m_l13 s31_11 = some (s31_11, none) := on_fs xxm_l13 (by kernel_rfl)
noncomputable def z31 : St := (s31_11.set 11 (.val (.int 0))).set 11 (.val (.int 1))
theorem e31_15 : t_l15 z31 = some true := on_ft xxt_l15 (by kernel_rfl)
theorem e31_16_0 : r16 (z31.set 12 (.val (.int (1 + (0 : Nat))))) = true := on_16 (by kernel_rfl)
theorem e31_16_1 : r16 (z31.set 12 (.val (.int (1 + (1 : Nat))))) = true := on_16 (by kernel_rfl)
theorem e31_s0 : ((List.range 3).all fun b => (List.range 3).all fun c => sharedChk whole31 due31 3 [0, b, c]) = true := on_sh (by kernel_rfl)
theorem e31_s1 : ((List.range 3).all fun b => (List.range 3).all fun c => sharedChk whole31 due31 3 [1, b, c]) = true := on_sh (by kernel_rfl)
theorem e31_s2 : ((List.range 3).all fun b => (List.range 3).all fun c => sharedChk whole31 due31 3 [2, b, c]) = true := on_sh (by kernel_rfl)
theorem pair31 : PairEx 3 1 := ⟨whole31, due31, s31_3, s31_4, s31_4, s31_6, s31_7, s31_7, s31_9, s31_10, s31_11, s31_11, s31_11, true, ⟨by decide, e31_3, e31_4, e31_5, e31_6, e31_7, e31_8, e31_9, e31_10, e31_11, e31_12, e31_13, rfl, rfl, rfl, chk_of fun a ha => (match a, ha with | 0, _ => e31_s0 | 1, _ => e31_s1 | 2, _ => e31_s2 | n + 3, h => absurd h (by omega)), e31_15, fun r hr => (match r, hr with | 0, _ => e31_16_0 | 1, _ => e31_16_1 | n + 2, h => absurd (show n + 2 < 2 from h) (by omega))⟩⟩
noncomputable def whole23 : D := .list [(.int (.ofNat 0)), (.int (.ofNat 1)), (.int (.ofNat 0)), (.int (.ofNat 0)), (.int (.ofNat 0)), (.int (.ofNat 0)), (.int (.ofNat 0)), (.int (.ofNat 0)), (.int (.ofNat 1))]
noncomputable def s23_3 : St := [.un, (.val (.int 2)), (.val (.int 3)), (.val whole23), .un, .un, .un, .un, .un, .un, .un, .un, .un, .un]
theorem e23_3 : m_l3 (st0 2 3) = some (s23_3, none) := on_fs xxm_l3 (by kernel_rfl)
noncomputable def due23 : D := .list [(.list [(.int (.ofNat 0)), (.int (.ofNat 1))]), (.list [(.int (.ofNat 1)), (.int (.ofNat 1))]), (.list [(.int (.ofNat 1)), (.int (.ofNat 1)), (.int (.ofNat 0)), (.int (.ofNat 1))]), (.list [(.int (.ofNat 1)), (.int (.ofNat 0)), (.int (.ofNat 1)), (.int (.ofNat 1))])]
noncomputable def s23_4 : St := [.un, (.val (.int 2)), (.val (.int 3)), (.val whole23), (.val due23), .un, .un, .un, .un, .un, .un, .un, .un, .un]
theorem e23_4 : m_l4 s23_3 = some (s23_4, none) := on_fs xxm_l4 (by kernel_rfl)
theorem e23_5 : m_l5 s23_4 = some (s23_4, none) := on_fs xxm_l5 (by kernel_rfl)
noncomputable def some23 : D := .list [(.list [(.int (.ofNat 1)), (.int (.ofNat 1)), (.int (.ofNat 0)), (.int (.ofNat 1))]), (.list [(.int (.ofNat 1)), (.int (.ofNat 0)), (.int (.ofNat 1)), (.int (.ofNat 1))])]
noncomputable def s23_6 : St := [.un, (.val (.int 2)), (.val (.int 3)), (.val whole23), (.val due23), (.val (.int 3)), (.val some23), .un, .un, .un, .un, .un, .un, .un]
theorem e23_6 : m_l6 s23_4 = some (s23_6, none) := on_fs xxm_l6 (by kernel_rfl)
noncomputable def told23 : D := .list [(.tuple [(.list [(.int (.ofNat 0)), (.int (.ofNat 1)), (.int (.ofNat 1))]), (.int (.ofNat 1))]), (.tuple [(.list [(.int (.ofNat 1)), (.int (.ofNat 1)), (.int (.ofNat 1)), (.int (.ofNat 1)), (.int (.ofNat 1)), (.int (.ofNat 1)), (.int (.ofNat 1))]), (.int (.ofNat 3))])]
noncomputable def s23_7 : St := [.un, (.val (.int 2)), (.val (.int 3)), (.val whole23), (.val due23), (.val (.int 3)), (.val some23), (.val told23), .un, .un, .un, .un, .un, .un]
theorem e23_7 : m_l7 s23_6 = some (s23_7, none) := on_fs xxm_l7 (by kernel_rfl)
theorem e23_8 : m_l8 s23_7 = some (s23_7, none) := on_fs xxm_l8 (by kernel_rfl)
noncomputable def both23 : D := .list [(.int (.ofNat 1)), (.int (.ofNat 1)), (.int (.ofNat 1)), (.int (.ofNat 1)), (.int (.ofNat 1)), (.int (.ofNat 1)), (.int (.ofNat 1))]
noncomputable def s23_9 : St := [.un, (.val (.int 2)), (.val (.int 3)), (.val whole23), (.val due23), (.val (.int 3)), (.val some23), (.val told23), (.val both23), .un, .un, .un, .un, .un]
theorem e23_9 : m_l9 s23_7 = some (s23_9, none) := on_fs xxm_l9 (by kernel_rfl)
noncomputable def m23 : D := .list [(.int (.ofNat 1)), (.int (.ofNat 1)), (.int (.ofNat 0)), (.int (.ofNat 1))]
noncomputable def s23_10 : St := [.un, (.val (.int 2)), (.val (.int 3)), (.val whole23), (.val due23), (.val (.int 3)), (.val some23), (.val told23), (.val both23), (.val m23), .un, .un, .un, .un]
theorem e23_10 : m_l10 s23_9 = some (s23_10, none) := on_fs xxm_l10 (by kernel_rfl)
noncomputable def roots23 : D := .list [(.list [(.list [])]), (.list [(.list [(.int (.ofNat 1))])]), (.list [(.list [(.int (.ofNat 0)), (.int (.ofNat 1))]), (.list [(.int (.ofNat 0)), (.int (.ofNat 0)), (.int (.ofNat 1))]), (.list [(.int (.ofNat 0)), (.int (.ofNat 1)), (.int (.ofNat 1))])]), (.list [(.list [(.int (.ofNat 1)), (.int (.ofNat 1))]), (.list [(.int (.ofNat 1)), (.int (.ofNat 0)), (.int (.ofNat 1))]), (.list [(.int (.ofNat 1)), (.int (.ofNat 1)), (.int (.ofNat 1))])])]
noncomputable def s23_11 : St := [.un, (.val (.int 2)), (.val (.int 3)), (.val whole23), (.val due23), (.val (.int 3)), (.val some23), (.val told23), (.val both23), (.val m23), (.val roots23), .un, .un, .un]
theorem e23_11 : m_l11 s23_10 = some (s23_11, none) := on_fs xxm_l11 (by kernel_rfl)
theorem e23_12 : m_l12 s23_11 = some (s23_11, none) := on_fs xxm_l12 (by kernel_rfl)
theorem e23_13 : m_l13 s23_11 = some (s23_11, none) := on_fs xxm_l13 (by kernel_rfl)
noncomputable def z23 : St := (s23_11.set 11 (.val (.int 0))).set 11 (.val (.int 1))
theorem e23_15 : t_l15 z23 = some false := on_ft xxt_l15 (by kernel_rfl)
theorem e23_16_0 : r16 (z23.set 12 (.val (.int (1 + (0 : Nat))))) = true := on_16 (by kernel_rfl)
theorem e23_s0 : ((List.range 2).all fun b => (List.range 2).all fun c => sharedChk whole23 due23 2 [0, b, c]) = true := on_sh (by kernel_rfl)
theorem e23_s1 : ((List.range 2).all fun b => (List.range 2).all fun c => sharedChk whole23 due23 2 [1, b, c]) = true := on_sh (by kernel_rfl)
theorem pair23 : PairEx 2 3 := ⟨whole23, due23, s23_3, s23_4, s23_4, s23_6, s23_7, s23_7, s23_9, s23_10, s23_11, s23_11, s23_11, false, ⟨by decide, e23_3, e23_4, e23_5, e23_6, e23_7, e23_8, e23_9, e23_10, e23_11, e23_12, e23_13, rfl, rfl, rfl, chk_of fun a ha => (match a, ha with | 0, _ => e23_s0 | 1, _ => e23_s1 | n + 2, h => absurd h (by omega)), e23_15, fun r hr => (match r, hr with | 0, _ => e23_16_0 | n + 1, h => absurd (show n + 1 < 1 from h) (by omega))⟩⟩
noncomputable def whole51 : D := .list [(.int (.ofNat 0)), (.int (.ofNat 4)), (.int (.ofNat 0)), (.int (.ofNat 0)), (.int (.ofNat 0)), (.int (.ofNat 1))]
noncomputable def s51_3 : St := [.un, (.val (.int 5)), (.val (.int 1)), (.val whole51), .un, .un, .un, .un, .un, .un, .un, .un, .un, .un]
theorem e51_3 : m_l3 (st0 5 1) = some (s51_3, none) := on_fs xxm_l3 (by kernel_rfl)
noncomputable def due51 : D := .list [(.list [(.int (.ofNat 0)), (.int (.ofNat 1))]), (.list [(.int (.ofNat 1)), (.int (.ofNat 1))]), (.list [(.int (.ofNat 2)), (.int (.ofNat 1))]), (.list [(.int (.ofNat 3)), (.int (.ofNat 1))]), (.list [(.int (.ofNat 4)), (.int (.ofNat 1))])]
noncomputable def s51_4 : St := [.un, (.val (.int 5)), (.val (.int 1)), (.val whole51), (.val due51), .un, .un, .un, .un, .un, .un, .un, .un, .un]
theorem e51_4 : m_l4 s51_3 = some (s51_4, none) := on_fs xxm_l4 (by kernel_rfl)
theorem e51_5 : m_l5 s51_4 = some (s51_4, none) := on_fs xxm_l5 (by kernel_rfl)
noncomputable def some51 : D := .list [(.list [(.int (.ofNat 0)), (.int (.ofNat 1))]), (.list [(.int (.ofNat 1)), (.int (.ofNat 1))]), (.list [(.int (.ofNat 2)), (.int (.ofNat 1))]), (.list [(.int (.ofNat 3)), (.int (.ofNat 1))]), (.list [(.int (.ofNat 4)), (.int (.ofNat 1))])]
noncomputable def s51_6 : St := [.un, (.val (.int 5)), (.val (.int 1)), (.val whole51), (.val due51), (.val (.int 1)), (.val some51), .un, .un, .un, .un, .un, .un, .un]
theorem e51_6 : m_l6 s51_4 = some (s51_6, none) := on_fs xxm_l6 (by kernel_rfl)
noncomputable def told51 : D := .list [(.tuple [(.list [(.int (.ofNat 0)), (.int (.ofNat 4)), (.int (.ofNat 0)), (.int (.ofNat 0)), (.int (.ofNat 0)), (.int (.ofNat 1))]), (.int (.ofNat 1))])]
noncomputable def s51_7 : St := [.un, (.val (.int 5)), (.val (.int 1)), (.val whole51), (.val due51), (.val (.int 1)), (.val some51), (.val told51), .un, .un, .un, .un, .un, .un]
theorem e51_7 : m_l7 s51_6 = some (s51_7, none) := on_fs xxm_l7 (by kernel_rfl)
theorem e51_8 : m_l8 s51_7 = some (s51_7, none) := on_fs xxm_l8 (by kernel_rfl)
noncomputable def both51 : D := .list [(.int (.ofNat 0)), (.int (.ofNat 4)), (.int (.ofNat 0)), (.int (.ofNat 0)), (.int (.ofNat 0)), (.int (.ofNat 1))]
noncomputable def s51_9 : St := [.un, (.val (.int 5)), (.val (.int 1)), (.val whole51), (.val due51), (.val (.int 1)), (.val some51), (.val told51), (.val both51), .un, .un, .un, .un, .un]
theorem e51_9 : m_l9 s51_7 = some (s51_9, none) := on_fs xxm_l9 (by kernel_rfl)
noncomputable def m51 : D := .list [(.int (.ofNat 0)), (.int (.ofNat 1))]
noncomputable def s51_10 : St := [.un, (.val (.int 5)), (.val (.int 1)), (.val whole51), (.val due51), (.val (.int 1)), (.val some51), (.val told51), (.val both51), (.val m51), .un, .un, .un, .un]
theorem e51_10 : m_l10 s51_9 = some (s51_10, none) := on_fs xxm_l10 (by kernel_rfl)
noncomputable def roots51 : D := .list [(.list [(.list [])]), (.list [(.list [(.int (.ofNat 4))])]), (.list [(.list [(.int (.ofNat 3))])]), (.list [(.list [(.int (.ofNat 2))])]), (.list [(.list [(.int (.ofNat 1))])])]
noncomputable def s51_11 : St := [.un, (.val (.int 5)), (.val (.int 1)), (.val whole51), (.val due51), (.val (.int 1)), (.val some51), (.val told51), (.val both51), (.val m51), (.val roots51), .un, .un, .un]
theorem e51_11 : m_l11 s51_10 = some (s51_11, none) := on_fs xxm_l11 (by kernel_rfl)
theorem e51_12 : m_l12 s51_11 = some (s51_11, none) := on_fs xxm_l12 (by kernel_rfl)
theorem e51_13 : m_l13 s51_11 = some (s51_11, none) := on_fs xxm_l13 (by kernel_rfl)
noncomputable def z51 : St := (s51_11.set 11 (.val (.int 0))).set 11 (.val (.int 1))
theorem e51_15 : t_l15 z51 = some true := on_ft xxt_l15 (by kernel_rfl)
theorem e51_16_0 : r16 (z51.set 12 (.val (.int (1 + (0 : Nat))))) = true := on_16 (by kernel_rfl)
theorem e51_16_1 : r16 (z51.set 12 (.val (.int (1 + (1 : Nat))))) = true := on_16 (by kernel_rfl)
theorem e51_s0 : ((List.range 5).all fun b => (List.range 5).all fun c => sharedChk whole51 due51 5 [0, b, c]) = true := on_sh (by kernel_rfl)
theorem e51_s1 : ((List.range 5).all fun b => (List.range 5).all fun c => sharedChk whole51 due51 5 [1, b, c]) = true := on_sh (by kernel_rfl)
theorem e51_s2 : ((List.range 5).all fun b => (List.range 5).all fun c => sharedChk whole51 due51 5 [2, b, c]) = true := on_sh (by kernel_rfl)
theorem e51_s3 : ((List.range 5).all fun b => (List.range 5).all fun c => sharedChk whole51 due51 5 [3, b, c]) = true := on_sh (by kernel_rfl)
theorem e51_s4 : ((List.range 5).all fun b => (List.range 5).all fun c => sharedChk whole51 due51 5 [4, b, c]) = true := on_sh (by kernel_rfl)
theorem pair51 : PairEx 5 1 := ⟨whole51, due51, s51_3, s51_4, s51_4, s51_6, s51_7, s51_7, s51_9, s51_10, s51_11, s51_11, s51_11, true, ⟨by decide, e51_3, e51_4, e51_5, e51_6, e51_7, e51_8, e51_9, e51_10, e51_11, e51_12, e51_13, rfl, rfl, rfl, chk_of fun a ha => (match a, ha with | 0, _ => e51_s0 | 1, _ => e51_s1 | 2, _ => e51_s2 | 3, _ => e51_s3 | 4, _ => e51_s4 | n + 5, h => absurd h (by omega)), e51_15, fun r hr => (match r, hr with | 0, _ => e51_16_0 | 1, _ => e51_16_1 | n + 2, h => absurd (show n + 2 < 2 from h) (by omega))⟩⟩
noncomputable def whole32 : D := .list [(.int (.ofNat 0)), (.int (.ofNat 2)), (.int (.ofNat 0)), (.int (.ofNat 0)), (.int (.ofNat 0)), (.int (.ofNat 0)), (.int (.ofNat 0)), (.int (.ofNat 0)), (.int (.ofNat 0)), (.int (.ofNat 1))]
noncomputable def s32_3 : St := [.un, (.val (.int 3)), (.val (.int 2)), (.val whole32), .un, .un, .un, .un, .un, .un, .un, .un, .un, .un]
theorem e32_3 : m_l3 (st0 3 2) = some (s32_3, none) := on_fs xxm_l3 (by kernel_rfl)
noncomputable def due32 : D := .list [(.list [(.int (.ofNat 0)), (.int (.ofNat 1))]), (.list [(.int (.ofNat 1)), (.int (.ofNat 1))]), (.list [(.int (.ofNat 2)), (.int (.ofNat 1))]), (.list [(.int (.ofNat 1)), (.int (.ofNat 0)), (.int (.ofNat 1))]), (.list [(.int (.ofNat 2)), (.int (.ofNat 1)), (.int (.ofNat 1))]), (.list [(.int (.ofNat 2)), (.int (.ofNat 2)), (.int (.ofNat 1))])]
noncomputable def s32_4 : St := [.un, (.val (.int 3)), (.val (.int 2)), (.val whole32), (.val due32), .un, .un, .un, .un, .un, .un, .un, .un, .un]
theorem e32_4 : m_l4 s32_3 = some (s32_4, none) := on_fs xxm_l4 (by kernel_rfl)
theorem e32_5 : m_l5 s32_4 = some (s32_4, none) := on_fs xxm_l5 (by kernel_rfl)
noncomputable def some32 : D := .list [(.list [(.int (.ofNat 1)), (.int (.ofNat 0)), (.int (.ofNat 1))]), (.list [(.int (.ofNat 2)), (.int (.ofNat 1)), (.int (.ofNat 1))]), (.list [(.int (.ofNat 2)), (.int (.ofNat 2)), (.int (.ofNat 1))])]
noncomputable def s32_6 : St := [.un, (.val (.int 3)), (.val (.int 2)), (.val whole32), (.val due32), (.val (.int 2)), (.val some32), .un, .un, .un, .un, .un, .un, .un]
theorem e32_6 : m_l6 s32_4 = some (s32_6, none) := on_fs xxm_l6 (by kernel_rfl)
noncomputable def told32 : D := .list [(.tuple [(.list [(.int (.ofNat 0)), (.int (.ofNat 2)), (.int (.ofNat 0)), (.int (.ofNat 1))]), (.int (.ofNat 1))]), (.tuple [(.list [(.int (.ofNat 1)), (.int (.ofNat 0)), (.int (.ofNat 1)), (.int (.ofNat 0)), (.int (.ofNat 1)), (.int (.ofNat 0)), (.int (.ofNat 1))]), (.int (.ofNat 2))])]
noncomputable def s32_7 : St := [.un, (.val (.int 3)), (.val (.int 2)), (.val whole32), (.val due32), (.val (.int 2)), (.val some32), (.val told32), .un, .un, .un, .un, .un, .un]
theorem e32_7 : m_l7 s32_6 = some (s32_7, none) := on_fs xxm_l7 (by kernel_rfl)
theorem e32_8 : m_l8 s32_7 = some (s32_7, none) := on_fs xxm_l8 (by kernel_rfl)
noncomputable def both32 : D := .list [(.int (.ofNat 1)), (.int (.ofNat 0)), (.int (.ofNat 1)), (.int (.ofNat 0)), (.int (.ofNat 1)), (.int (.ofNat 0)), (.int (.ofNat 1))]
noncomputable def s32_9 : St := [.un, (.val (.int 3)), (.val (.int 2)), (.val whole32), (.val due32), (.val (.int 2)), (.val some32), (.val told32), (.val both32), .un, .un, .un, .un, .un]
theorem e32_9 : m_l9 s32_7 = some (s32_9, none) := on_fs xxm_l9 (by kernel_rfl)
noncomputable def m32 : D := .list [(.int (.ofNat 1)), (.int (.ofNat 0)), (.int (.ofNat 1))]
noncomputable def s32_10 : St := [.un, (.val (.int 3)), (.val (.int 2)), (.val whole32), (.val due32), (.val (.int 2)), (.val some32), (.val told32), (.val both32), (.val m32), .un, .un, .un, .un]
theorem e32_10 : m_l10 s32_9 = some (s32_10, none) := on_fs xxm_l10 (by kernel_rfl)
noncomputable def roots32 : D := .list [(.list [(.list [])]), (.list [(.list [(.int (.ofNat 2))])]), (.list [(.list [(.int (.ofNat 1))])]), (.list [(.list [(.int (.ofNat 0)), (.int (.ofNat 1))]), (.list [(.int (.ofNat 0)), (.int (.ofNat 2))])]), (.list [(.list [(.int (.ofNat 1)), (.int (.ofNat 1))]), (.list [(.int (.ofNat 1)), (.int (.ofNat 2))])]), (.list [(.list [(.int (.ofNat 2)), (.int (.ofNat 1))]), (.list [(.int (.ofNat 2)), (.int (.ofNat 2))])])]
noncomputable def s32_11 : St := [.un, (.val (.int 3)), (.val (.int 2)), (.val whole32), (.val due32), (.val (.int 2)), (.val some32), (.val told32), (.val both32), (.val m32), (.val roots32), .un, .un, .un]
theorem e32_11 : m_l11 s32_10 = some (s32_11, none) := on_fs xxm_l11 (by kernel_rfl)
theorem e32_12 : m_l12 s32_11 = some (s32_11, none) := on_fs xxm_l12 (by kernel_rfl)
theorem e32_13 : m_l13 s32_11 = some (s32_11, none) := on_fs xxm_l13 (by kernel_rfl)
noncomputable def z32 : St := (s32_11.set 11 (.val (.int 0))).set 11 (.val (.int 1))
theorem e32_15 : t_l15 z32 = some false := on_ft xxt_l15 (by kernel_rfl)
theorem e32_16_0 : r16 (z32.set 12 (.val (.int (1 + (0 : Nat))))) = true := on_16 (by kernel_rfl)
theorem e32_s0 : ((List.range 3).all fun b => (List.range 3).all fun c => sharedChk whole32 due32 3 [0, b, c]) = true := on_sh (by kernel_rfl)
theorem e32_s1 : ((List.range 3).all fun b => (List.range 3).all fun c => sharedChk whole32 due32 3 [1, b, c]) = true := on_sh (by kernel_rfl)
theorem e32_s2 : ((List.range 3).all fun b => (List.range 3).all fun c => sharedChk whole32 due32 3 [2, b, c]) = true := on_sh (by kernel_rfl)
theorem pair32 : PairEx 3 2 := ⟨whole32, due32, s32_3, s32_4, s32_4, s32_6, s32_7, s32_7, s32_9, s32_10, s32_11, s32_11, s32_11, false, ⟨by decide, e32_3, e32_4, e32_5, e32_6, e32_7, e32_8, e32_9, e32_10, e32_11, e32_12, e32_13, rfl, rfl, rfl, chk_of fun a ha => (match a, ha with | 0, _ => e32_s0 | 1, _ => e32_s1 | 2, _ => e32_s2 | n + 3, h => absurd h (by omega)), e32_15, fun r hr => (match r, hr with | 0, _ => e32_16_0 | n + 1, h => absurd (show n + 1 < 1 from h) (by omega))⟩⟩
theorem all_pairs : ∀ q ∈ thePairs, PairEx q.1 q.2 := by
  intro q hq
  simp only [thePairs, List.mem_cons, List.not_mem_nil, or_false] at hq
  rcases hq with rfl | rfl | rfl | rfl | rfl | rfl
  · exact pair21
  · exact pair22
  · exact pair31
  · exact pair23
  · exact pair51
  · exact pair32
end Pf

namespace Pf
open PySem PySem.Calls PyProof.Rows PySem.W
/- ---- the head: the top, run by the kernel at once ---- -/
theorem headL (call : WalkO qL [] (fun _ _ => True) YP PySem.Challenge.rw_pf0054_01.row.toRowW (dr 52) [] fun f vs => PySem.call f vs) : PySem.Challenge.rw_pf0054_01.Holds :=
  holds_law said fun k1 => holds_open (r := PySem.Challenge.rw_pf0054_01.row) (q := qL) (loose := []) (Xt := fun s => recOk [] s) (XP := fun _ _ => True) (Yf := Yo) (Ya := Yv) (YP := YP) (d := dr 52) (kwd := []) (N := 3598)
    leftL YP.of YP.keeps (fun _ _ => trivial) (fun _ _ _ _ _ => trivial) (by kernel_rfl) (by kernel_rfl) (by kernel_rfl) (fun s e => recFacts_of e) rfl k1 (by decide +kernel) ⟨rfl, rfl, rfl, rfl, rfl, by decide +kernel⟩ ⟨[.list []], by decide +kernel, by decide +kernel⟩ call
theorem walkL (PE : ∀ q ∈ thePairs, PairEx q.1 q.2) : WalkO qL [] (fun _ _ => True) YP PySem.Challenge.rw_pf0054_01.row.toRowW (dr 52) [] fun f vs => PySem.call f vs := by
  w_on
  intro w s₀ s₁ mg mb G Y fa o pm cd doc dV kV ho hd hcd hD hmg hg args vals as hpre hlay hrd hwl hlo
  have T := G.T
  have hrec : recsOf qL = theDefs := by kernel_rfl
  have hT9 := tabs_of T hrec Y
  wrow_args hpre hlay hrd hwl hlo
  refine enter_call ?_
  refine kn_post hT9 (fun _ _ => rfl) ?_
  rename Well _ _ _ _ => wl
  rename ¬ _ => hlen
  have e1 : dV = .none := Dflts.pos_none hD (by kernel_rfl)
  have e2 : kV = .none := Dflts.noKw hD
  subst e1 e2
  refine law_final (pm := pm) (doc := doc) T hrec hT9 Y (by kernel_rfl) PE ho (hd.trans ?hdt) hcd wl (by omega) fun s' sh kp tb => ?fin
  case hdt => rfl
  case fin =>
    obtain ⟨h', tk, rfl⟩ := sh
    refine ⟨⟨.inl ⟨_, .bool true, [], rfl, raisesW_false (by wrow_none_raised), .bool true, ?post, unshared_nil⟩, fun b o e => ?keep, rfl, hg⟩, ⟨tb, trivial⟩⟩
    case post => wrow_post
    case keep =>
      refine kp b o (fun z => ?_) (of_hideAll _ e)
      subst z
      have := hideAll_none (h := s₁.heap) [341] (b := 341) (.head _)
      rw [show (ghostOf s₁.heap [(343, 341)]).get? 341 = none from this] at e
      cases e
end Pf

theorem PySem.Challenge.cw_pf0054_01_holds : PySem.Challenge.rw_pf0054_01.Holds := by
  exact Pf.headL (Pf.walkL Pf.all_pairs)
