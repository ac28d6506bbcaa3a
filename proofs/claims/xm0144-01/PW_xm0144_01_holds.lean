import PyProof.Rows.All
import Wide.All
import OpenK.AllK
import Wide.FinOn
import Lean
import PySem.Challenge.RW_xm0144_01
set_option Elab.async false
section
open PySem PySem.W PyProof.Rows
set_option linter.unusedVariables false
namespace Mine

/-! ## Frozen objects and the data that they bear -/
noncomputable abbrev Fz := Addr → Obj → Prop
noncomputable def Fz.off (F : Fz) (a : Addr) : Prop := ∀ o, ¬ F a o
noncomputable def Fz.le (F G : Fz) : Prop := ∀ b o, F b o → G b o
noncomputable def Fz.sub (F : Fz) (h : Heap) : Prop := ∀ b o, F b o → h.get? b = some o
theorem Fz.le.refl (F : Fz) : F.le F := fun _ _ x => x
theorem Fz.le.trans {F G H : Fz} (x : F.le G) (y : G.le H) : F.le H := fun b o z => y b o (x b o z)

mutual
inductive DF (F : Fz) : Value → PyData → Prop
  | none : DF F .none .none
  | bool (b : Bool) : DF F (.bool b) (.bool b)
  | int (i : Int) (t : Tok) : DF F (.int i t) (.int i)
  | list {a : Addr} {o : Obj} {vs : Array Value} {n : Nat} {xs : List PyData} : F a o → o.cls = .type "list" → o.data = .seq vs n → DFs F vs.toList xs → DF F (.ref a) (.list xs)
  | tuple {a : Addr} {o : Obj} {vs : Array Value} {n : Nat} {xs : List PyData} : F a o → o.cls = .type "tuple" → o.data = .seq vs n → DFs F vs.toList xs → DF F (.ref a) (.tuple xs)
inductive DFs (F : Fz) : List Value → List PyData → Prop
  | nil : DFs F [] []
  | cons {v : Value} {d : PyData} {vs : List Value} {ds : List PyData} : DF F v d → DFs F vs ds → DFs F (v :: vs) (d :: ds)
end

mutual
theorem DF.mono {F G : Fz} (h : F.le G) : ∀ {v : Value} {d : PyData}, DF F v d → DF G v d
  | _, _, .none => .none
  | _, _, .bool b => .bool b
  | _, _, .int i t => .int i t
  | _, _, .list a b c r => .list (h _ _ a) b c (DFs.mono h r)
  | _, _, .tuple a b c r => .tuple (h _ _ a) b c (DFs.mono h r)
theorem DFs.mono {F G : Fz} (h : F.le G) : ∀ {vs : List Value} {ds : List PyData}, DFs F vs ds → DFs G vs ds
  | _, _, .nil => .nil
  | _, _, .cons x r => .cons (DF.mono h x) (DFs.mono h r)
end

mutual
theorem DF.reads {F : Fz} {h : Heap} (hs : F.sub h) : ∀ {v : Value} {d : PyData}, DF F v d → ∃ as, Reads h v d as
  | _, _, .none => ⟨_, .none⟩
  | _, _, .bool b => ⟨_, .bool b⟩
  | _, _, .int i t => ⟨_, .int i t⟩
  | _, _, .list a b c r => let ⟨_, q⟩ := DFs.reads hs r; ⟨_, .list (hs _ _ a) b c q⟩
  | _, _, .tuple a b c r => let ⟨_, q⟩ := DFs.reads hs r; ⟨_, .tuple (hs _ _ a) b c q⟩
theorem DFs.reads {F : Fz} {h : Heap} (hs : F.sub h) : ∀ {vs : List Value} {ds : List PyData}, DFs F vs ds → ∃ as, ReadsAll h vs ds as
  | _, _, .nil => ⟨_, .nil⟩
  | _, _, .cons x r => let ⟨_, p⟩ := DF.reads hs x; let ⟨_, q⟩ := DFs.reads hs r; ⟨_, .cons p q⟩
end

theorem DF.int_inv {F : Fz} {v : Value} {i : Int} (h : DF F v (.int i)) : ∃ t, v = .int i t := by cases h; exact ⟨_, rfl⟩
theorem DF.bool_inv {F : Fz} {v : Value} {b : Bool} (h : DF F v (.bool b)) : v = .bool b := by cases h; rfl
theorem DF.none_inv {F : Fz} {v : Value} (h : DF F v .none) : v = .none := by cases h; rfl
theorem DF.list_inv {F : Fz} {v : Value} {xs : List PyData} (h : DF F v (.list xs)) : ∃ a o vs n, v = .ref a ∧ F a o ∧ o.cls = .type "list" ∧ o.data = .seq vs n ∧ DFs F vs.toList xs := by
  cases h with | list a b c r => exact ⟨_, _, _, _, rfl, a, b, c, r⟩
theorem DF.tuple_inv {F : Fz} {v : Value} {xs : List PyData} (h : DF F v (.tuple xs)) : ∃ a o vs n, v = .ref a ∧ F a o ∧ o.cls = .type "tuple" ∧ o.data = .seq vs n ∧ DFs F vs.toList xs := by
  cases h with | tuple a b c r => exact ⟨_, _, _, _, rfl, a, b, c, r⟩

theorem DFs.length {F : Fz} : ∀ {vs : List Value} {ds : List PyData}, DFs F vs ds → vs.length = ds.length
  | _, _, .nil => rfl
  | _, _, .cons _ r => by simp [DFs.length r]
theorem DFs.get {F : Fz} : ∀ {vs : List Value} {ds : List PyData}, DFs F vs ds → ∀ {i : Nat} {d : PyData}, ds[i]? = some d → ∃ v, vs[i]? = some v ∧ DF F v d
  | _, _, .nil, _, _, h => by simp at h
  | _, _, .cons x r, 0, _, h => by simp at h; subst h; exact ⟨_, by simp, x⟩
  | _, _, .cons _ r, i + 1, _, h => by simp at h; simpa using DFs.get r h
theorem DFs.get' {F : Fz} : ∀ {vs : List Value} {ds : List PyData}, DFs F vs ds → ∀ {i : Nat} {v : Value}, vs[i]? = some v → ∃ d, ds[i]? = some d ∧ DF F v d
  | _, _, .nil, _, _, h => by simp at h
  | _, _, .cons x r, 0, _, h => by simp at h; subst h; exact ⟨_, by simp, x⟩
  | _, _, .cons _ r, i + 1, _, h => by simp at h; simpa using DFs.get' r h
theorem DFs.append {F : Fz} : ∀ {vs : List Value} {ds : List PyData} {ws : List Value} {es : List PyData}, DFs F vs ds → DFs F ws es → DFs F (vs ++ ws) (ds ++ es)
  | _, _, _, _, .nil, q => q
  | _, _, _, _, .cons x r, q => .cons x (DFs.append r q)
theorem DFs.take {F : Fz} : ∀ {vs : List Value} {ds : List PyData}, DFs F vs ds → ∀ (n : Nat), DFs F (vs.take n) (ds.take n)
  | _, _, .nil, n => by simpa using DFs.nil
  | _, _, .cons x r, 0 => by simpa using DFs.nil
  | _, _, .cons x r, n + 1 => by simpa using DFs.cons x (DFs.take r n)
theorem DFs.drop {F : Fz} : ∀ {vs : List Value} {ds : List PyData}, DFs F vs ds → ∀ (n : Nat), DFs F (vs.drop n) (ds.drop n)
  | _, _, .nil, n => by simpa using DFs.nil
  | _, _, .cons x r, 0 => by simpa using DFs.cons x r
  | _, _, .cons x r, n + 1 => by simpa using DFs.drop r n
theorem DFs.set {F : Fz} {v : Value} {d : PyData} (hv : DF F v d) : ∀ {vs : List Value} {ds : List PyData}, DFs F vs ds → ∀ (n : Nat), DFs F (vs.set n v) (ds.set n d)
  | _, _, .nil, n => by simpa using DFs.nil
  | _, _, .cons x r, 0 => by simpa using DFs.cons hv r
  | _, _, .cons x r, n + 1 => by simpa using DFs.cons x (DFs.set hv r n)
theorem DFs.one {F : Fz} {v : Value} {d : PyData} (h : DF F v d) : DFs F [v] [d] := .cons h .nil
theorem DFs.replicate {F : Fz} {vs : List Value} {ds : List PyData} (h : DFs F vs ds) : ∀ n : Nat, DFs F (List.replicate n vs).flatten (List.replicate n ds).flatten
  | 0 => by simpa using DFs.nil
  | n + 1 => by simpa [List.replicate_succ] using h.append (DFs.replicate h n)
theorem DFs.reverse {F : Fz} : ∀ {vs : List Value} {ds : List PyData}, DFs F vs ds → DFs F vs.reverse ds.reverse
  | _, _, .nil => by simpa using DFs.nil
  | _, _, .cons x r => by simpa using (DFs.reverse r).append (DFs.one x)

/-! ## Values of the abstract state -/
inductive WV where
  | val (d : PyData)
  | adr (a : Addr)
  | two (x y : WV)

noncomputable def WOk (F : Fz) : Value → WV → Prop
  | V, .val d => DF F V d
  | V, .adr a => V = .ref a
  | V, .two x y => ∃ t o V1 V2 n, V = .ref t ∧ F t o ∧ o.cls = .type "tuple" ∧ o.data = .seq #[V1, V2] n ∧ WOk F V1 x ∧ WOk F V2 y
theorem WOk.mono {F G : Fz} (h : F.le G) : ∀ {w : WV} {V : Value}, WOk F V w → WOk G V w
  | .val _, _, x => DF.mono h x
  | .adr _, _, x => x
  | .two _ _, _, ⟨t, o, V1, V2, n, e, a, b, c, x, y⟩ => ⟨t, o, V1, V2, n, e, h _ _ a, b, c, WOk.mono h x, WOk.mono h y⟩

noncomputable abbrev Sg := List (Option WV)
noncomputable abbrev Mu := List (Addr × List PyData)
noncomputable abbrev Nm := List (Str × NameKind)

noncomputable def Holds (env : Env) (h : Heap) (x : Str) (k : NameKind) (V : Value) : Prop :=
  match k with
  | .local => ∃ m, h.Ns env.locals m ∧ m x = some V
  | .cell => ∃ c, env.cells.lookup x = some c ∧ h.IsCell c (some V)
  | .free => ∃ c, env.cells.lookup x = some c ∧ h.IsCell c (some V)
  | _ => False

structure EnvOk (nm : Nm) (env : Env) : Prop where
  kind : env.scope.kind = .function
  glob : env.globals = mainGlobals
  bi : env.builtins = builtinsNs
  names : (nm.map (·.1)).Nodup
  loc : ∀ x, (x, NameKind.local) ∈ nm → env.kindOf x = some .local
  cel : ∀ x, (x, NameKind.cell) ∈ nm → env.kindOf x = some .cell ∧ env.func.isSome = true ∧ ∃ c, env.cells.lookup x = some c
  fre : ∀ x, (x, NameKind.free) ∈ nm → (env.kindOf x = some .cell ∨ env.kindOf x = some .free) ∧ (x == ("__classdict__" : Str)) = false
  glo : ∀ x, (x, NameKind.globalImplicit) ∈ nm → env.kindOf x = some .globalImplicit
  dbg : ∀ p ∈ nm, (p.1 == ("__debug__" : Str)) = false

/-- a list object as the program makes it -/
noncomputable def ML (h : Heap) (a : Addr) (vs : Array Value) : Prop := ∃ o, h.get? a = some o ∧ ∃ n, o = listOf vs n
theorem ML.isList {h : Heap} {a : Addr} {vs : Array Value} (x : ML h a vs) : h.IsList a vs := by
  obtain ⟨o, ho, n, rfl⟩ := x
  exact ⟨_, ho, rfl, n, rfl⟩

structure Rel (h₀ : Heap) (s₀ : Shared) (B F : Fz) (nm : Nm) (env : Env) (σ : Sg) (μ : Mu) (s : Shared) : Prop where
  same : ∃ h tk, s = { s₀ with heap := h, toks := tk }
  baseF : ∀ b o, h₀.get? b = some o → F b o
  keepB : B.sub s.heap
  keepF : F.sub s.heap
  ns : ∃ m, s.heap.Ns env.locals m
  nsB : B.off env.locals
  nsF : F.off env.locals
  cells : ∀ x c, env.cells.lookup x = some c → ∃ v, s.heap.IsCell c v
  cellsX : ∀ x c, env.cells.lookup x = some c → F.off c
  cellsF : env.func.isSome = true → ∀ x c, env.cells.lookup x = some c → B.off c
  apart : env.func.isSome = true → ∀ x y c, env.cells.lookup x = some c → env.cells.lookup y = some c → x = y
  vars : ∀ (i : Nat) (x : Str) (k : NameKind) (w : WV), nm[i]? = some (x, k) → σ[i]? = some (some w) → ∃ V, Holds env s.heap x k V ∧ WOk F V w
  mu : ∀ p ∈ μ, (∃ vs : Array Value, ML s.heap p.1 vs ∧ DFs F vs.toList p.2) ∧ B.off p.1 ∧ F.off p.1
  nodup : (μ.map (·.1)).Nodup

noncomputable def Nx (B F F' : Fz) : Prop := F.le F' ∧ ∀ b o, F' b o → F b o ∨ B.off b
theorem Nx.refl (B F : Fz) : Nx B F F := ⟨Fz.le.refl F, fun _ _ x => .inl x⟩
theorem Nx.trans {B F G H : Fz} (x : Nx B F G) (y : Nx B G H) : Nx B F H :=
  ⟨x.1.trans y.1, fun b o z => (y.2 b o z).elim (fun q => x.2 b o q) .inr⟩
theorem Nx.anti {B B' F G : Fz} (hB : B.le B') (x : Nx B' F G) : Nx B F G := ⟨x.1, fun b o z => (x.2 b o z).imp id fun q o' hb => q o' (hB b o' hb)⟩

theorem lt_of_get {h : Heap} {a : Addr} {o : Obj} (e : h.get? a = some o) : a < h.objs.size := Heap.lt_size e

theorem ns_get_ne {h : Heap} {L a : Addr} {m : Str → Option Value} {vs : Array Value} (hn : h.Ns L m) (hl : h.IsList a vs) : a ≠ L := by
  rintro rfl
  obtain ⟨o, es, ep, ho, hd, _⟩ := hn
  obtain ⟨o', ho', _, n, hd'⟩ := hl
  rw [ho] at ho'; cases ho'; rw [hd] at hd'; cases hd'
theorem ns_cell_ne {h : Heap} {L c : Addr} {m : Str → Option Value} {v : Option Value} (hn : h.Ns L m) (hl : h.IsCell c v) : c ≠ L := by
  rintro rfl
  obtain ⟨o, es, ep, ho, hd, _⟩ := hn
  obtain ⟨o', ho', hd'⟩ := hl
  rw [ho] at ho'; cases ho'; rw [hd] at hd'; cases hd'
theorem cell_list_ne {h : Heap} {a c : Addr} {vs : Array Value} {v : Option Value} (hc : h.IsCell c v) (hl : h.IsList a vs) : a ≠ c := by
  rintro rfl
  obtain ⟨o, ho, hd⟩ := hc
  obtain ⟨o', ho', _, n, hd'⟩ := hl
  rw [ho] at ho'; cases ho'; rw [hd] at hd'; cases hd'

theorem Holds.but {env : Env} {h h' : Heap} {x : Str} {k : NameKind} {V : Value} (H : Holds env h x k V)
    (hns : ∀ m, h.Ns env.locals m → h'.Ns env.locals m) (hc : ∀ c v, env.cells.lookup x = some c → h.IsCell c v → h'.IsCell c v) : Holds env h' x k V := by
  cases k <;> first
    | exact H.elim
    | exact (let ⟨m, a, b⟩ := H; ⟨m, hns m a, b⟩)
    | exact (let ⟨c, a, b⟩ := H; ⟨c, a, hc c _ a b⟩)

section
variable {h₀ : Heap} {s₀ : Shared} {B F F' : Fz} {nm : Nm} {env : Env} {σ : Sg} {μ : Mu} {s : Shared}

/-- everything stays; new objects, new frozen ones -/
theorem Rel.grow (R : Rel h₀ s₀ B F nm env σ μ s) {h' : Heap} {tk : Nat} (hk : ∀ b o, s.heap.get? b = some o → h'.get? b = some o)
    (hF : F.le F') (hF' : F'.sub h') (hn : ∀ b o, F' b o → F b o ∨ s.heap.get? b = none) :
    Rel h₀ s₀ B F' nm env σ μ { s with heap := h', toks := tk } ∧ Nx B F F' := by
  have off : ∀ a o, s.heap.get? a = some o → F.off a → F'.off a := fun a o e hf o' x => (hn a o' x).elim (hf o') (fun q => by rw [e] at q; cases q)
  obtain ⟨m, hm⟩ := R.ns
  obtain ⟨h, tk0, rfl⟩ := R.same
  refine ⟨⟨⟨_, _, rfl⟩, fun b o e => hF b o (R.baseF b o e), fun b o e => hk b o (R.keepB b o e), hF', ⟨m, hm.keeps hk⟩, R.nsB, ?_, ?_, ?_, R.cellsF, R.apart, ?_, ?_, R.nodup⟩, hF, ?_⟩
  · obtain ⟨o, _, _, ho, _⟩ := hm; exact off _ o ho R.nsF
  · intro x c hc; obtain ⟨v, hv⟩ := R.cells x c hc; exact ⟨v, hv.keeps hk⟩
  · intro x c hc
    obtain ⟨v, o, ho, hd⟩ := R.cells x c hc
    exact off _ o ho (R.cellsX x c hc)
  · intro i x k w hx hw
    obtain ⟨V, hV, hW⟩ := R.vars i x k w hx hw
    exact ⟨V, hV.but (fun m' hm' => hm'.keeps hk) (fun c v _ hc => hc.keeps hk), hW.mono hF⟩
  · intro p hp
    obtain ⟨⟨vs, hl, hd⟩, hB, hFo⟩ := R.mu p hp
    obtain ⟨o, ho, hr⟩ := id hl
    exact ⟨⟨vs, ⟨o, hk _ _ ho, hr⟩, hd.mono hF⟩, hB, off _ o ho hFo⟩
  · intro b o x
    refine (hn b o x).imp id fun q o' hb => ?_
    rw [R.keepB b o' hb] at q; cases q

theorem Rel.tok (R : Rel h₀ s₀ B F nm env σ μ s) (tk : Nat) : Rel h₀ s₀ B F nm env σ μ { s with toks := tk } :=
  (R.grow (h' := s.heap) (tk := tk) (fun _ _ e => e) (Fz.le.refl F) R.keepF (fun _ _ x => .inl x)).1

theorem Rel.antiB {B' : Fz} (hB : B'.le B) (R : Rel h₀ s₀ B F nm env σ μ s) : Rel h₀ s₀ B' F nm env σ μ s where
  same := R.same
  baseF := R.baseF
  keepB := fun b o e => R.keepB b o (hB b o e)
  keepF := R.keepF
  ns := R.ns
  nsB := fun o e => R.nsB o (hB _ o e)
  nsF := R.nsF
  cells := R.cells
  cellsX := R.cellsX
  cellsF := fun hf x c hc o e => R.cellsF hf x c hc o (hB _ o e)
  apart := R.apart
  vars := R.vars
  mu := fun p hp => ⟨(R.mu p hp).1, fun o e => (R.mu p hp).2.1 o (hB _ o e), (R.mu p hp).2.2⟩
  nodup := R.nodup

/-- a new mutable list -/
theorem Rel.newList (R : Rel h₀ s₀ B F nm env σ μ s) {l : Addr} {vs : Array Value} {ds : List PyData} (hl : ML s.heap l vs) (hd : DFs F vs.toList ds)
    (hB : B.off l) (hF : F.off l) (hm : ∀ p ∈ μ, p.1 ≠ l) : Rel h₀ s₀ B F nm env σ ((l, ds) :: μ) s :=
  { R with
    mu := fun p hp => by
      rcases List.mem_cons.mp hp with rfl | hp
      · exact ⟨⟨vs, hl, hd⟩, hB, hF⟩
      · exact R.mu p hp
    nodup := by
      rw [List.map_cons, List.nodup_cons]
      refine ⟨fun hq => ?_, R.nodup⟩
      obtain ⟨p, hp, e⟩ := List.mem_map.mp hq
      exact hm p hp e }

theorem Rel.weakMu (R : Rel h₀ s₀ B F nm env σ μ s) {μ' : Mu} (h : List.Sublist μ' μ) : Rel h₀ s₀ B F nm env σ μ' s :=
  { R with
    mu := fun p hp => R.mu p (h.subset hp)
    nodup := R.nodup.sublist (h.map _) }

/-- a mutable list is frozen -/
theorem Rel.freeze {pre post : Mu} {a : Addr} {ds : List PyData} (R : Rel h₀ s₀ B F nm env σ (pre ++ (a, ds) :: post) s) :
    ∃ F', Nx B F F' ∧ Rel h₀ s₀ B F' nm env σ (pre ++ post) s ∧ DF F' (.ref a) (.list ds) := by
  obtain ⟨⟨vs, hML, hD⟩, hB, hF⟩ := R.mu (a, ds) (List.mem_append_right _ (.head _))
  obtain ⟨o, ho, hc, n, hd⟩ := hML.isList
  let F' : Fz := fun b o' => F b o' ∨ (b = a ∧ o' = o)
  have hle : F.le F' := fun _ _ x => .inl x
  have hv : DF F' (.ref a) (.list ds) := .list (.inr ⟨rfl, rfl⟩) hc hd (hD.mono hle)
  refine ⟨F', ⟨hle, ?_⟩, ?_, hv⟩
  · rintro b o' (x | ⟨rfl, rfl⟩)
    · exact .inl x
    · exact .inr hB
  have off : ∀ b, b ≠ a → F.off b → F'.off b := fun b hb hf o' x => x.elim (hf o') fun q => hb q.1
  obtain ⟨m, hm⟩ := R.ns
  have hl : s.heap.IsList a vs := ⟨o, ho, hc, n, hd⟩
  have hnd := R.nodup
  rw [List.map_append, List.map_cons] at hnd
  have hnd2 := (List.nodup_append.mp hnd)
  refine ⟨R.same, fun b o' e => .inl (R.baseF b o' e), R.keepB, ?_, R.ns, R.nsB, off _ (ns_get_ne hm hl).symm R.nsF, R.cells, ?_, R.cellsF, R.apart, ?_, ?_, ?_⟩
  · rintro b o' (x | ⟨rfl, rfl⟩)
    · exact R.keepF _ _ x
    · exact ho
  · intro x c hx
    obtain ⟨v, hcv⟩ := R.cells x c hx
    exact off _ (cell_list_ne hcv hl).symm (R.cellsX x c hx)
  · intro i x k w hx hw
    obtain ⟨V, hV, hW⟩ := R.vars i x k w hx hw
    exact ⟨V, hV, hW.mono hle⟩
  · intro p hp
    have hpm : p ∈ pre ++ (a, ds) :: post := (List.mem_append.mp hp).elim (fun q => List.mem_append_left _ q) fun q => List.mem_append_right _ (.tail _ q)
    obtain ⟨⟨vs', hl', hD'⟩, hB', hF'⟩ := R.mu p hpm
    refine ⟨⟨vs', hl', hD'.mono hle⟩, hB', off _ ?_ hF'⟩
    rintro rfl
    rcases List.mem_append.mp hp with hq | hq
    · exact hnd2.2.2 p.1 (List.mem_map.mpr ⟨p, hq, rfl⟩) p.1 (.head _) rfl
    · exact (List.nodup_cons.mp hnd2.2.1).1 (List.mem_map.mpr ⟨p, hq, rfl⟩)
  · rw [List.map_append]
    refine List.nodup_append.mpr ⟨hnd2.1, (List.nodup_cons.mp hnd2.2.1).2, fun x hx y hy => hnd2.2.2 x hx y (.tail _ hy)⟩

theorem Rel.slot (R : Rel h₀ s₀ B F nm env σ μ s) {i : Nat} {a : Addr} {d : PyData} (hi : σ[i]? = some (some (.adr a))) (hd : DF F (.ref a) d) :
    Rel h₀ s₀ B F nm env (σ.set i (some (.val d))) μ s :=
  { R with
    vars := fun j x k w hx hw => by
      by_cases hij : j = i
      · subst hij
        rw [List.getElem?_set] at hw
        simp only [if_true] at hw
        split at hw
        · cases hw
          obtain ⟨V, hV, hW⟩ := R.vars j x k _ hx hi
          have e : V = .ref a := hW
          subst e
          exact ⟨_, hV, hd⟩
        · cases hw
      · rw [List.getElem?_set_ne (fun e => hij e.symm)] at hw
        exact R.vars j x k w hx hw }

/-- a mutable list is changed -/
theorem Rel.setMu {pre post : Mu} {a : Addr} {ds ds' : List PyData} {vs' : Array Value} {h' : Heap} {tk : Nat} (R : Rel h₀ s₀ B F nm env σ (pre ++ (a, ds) :: post) s)
    (hs : Heap.SameBut a s.heap h') (hl' : ML h' a vs') (hd' : DFs F vs'.toList ds') :
    Rel h₀ s₀ B F nm env σ (pre ++ (a, ds') :: post) { s with heap := h', toks := tk } := by
  obtain ⟨⟨vs, hl, hD⟩, hB, hF⟩ := R.mu (a, ds) (List.mem_append_right _ (.head _))
  obtain ⟨m, hm⟩ := R.ns
  obtain ⟨h, tk0, rfl⟩ := R.same
  have hnd := R.nodup
  rw [List.map_append, List.map_cons] at hnd
  have hnd2 := (List.nodup_append.mp hnd)
  have hLa := (ns_get_ne hm hl.isList).symm
  refine ⟨⟨_, _, rfl⟩, R.baseF, fun b o e => (hs.2 b fun q => hB o (q ▸ e)).trans (R.keepB b o e), fun b o e => (hs.2 b fun q => hF o (q ▸ e)).trans (R.keepF b o e), ⟨m, hm.sameBut hs hLa⟩, R.nsB, R.nsF, ?_, R.cellsX, R.cellsF, R.apart, ?_, ?_, ?_⟩
  · intro x c hc; obtain ⟨v, hv⟩ := R.cells x c hc; exact ⟨v, hv.sameBut hs (cell_list_ne hv hl.isList).symm⟩
  · intro i x k w hx hw
    obtain ⟨V, hV, hW⟩ := R.vars i x k w hx hw
    exact ⟨V, hV.but (fun m' hm' => hm'.sameBut hs hLa) (fun c v _ hc => hc.sameBut hs (cell_list_ne hc hl.isList).symm), hW⟩
  · intro p hp
    by_cases hpa : p = (a, ds')
    · subst hpa; exact ⟨⟨vs', hl', hd'⟩, hB, hF⟩
    have hpm : p ∈ pre ++ post := by
      rcases List.mem_append.mp hp with q | q
      · exact List.mem_append_left _ q
      · rcases List.mem_cons.mp q with q | q
        · exact absurd q hpa
        · exact List.mem_append_right _ q
    have hpm' : p ∈ pre ++ (a, ds) :: post := (List.mem_append.mp hpm).elim (fun q => List.mem_append_left _ q) fun q => List.mem_append_right _ (.tail _ q)
    obtain ⟨⟨vs'', hl'', hD''⟩, hB', hF'⟩ := R.mu p hpm'
    refine ⟨⟨vs'', ?_, hD''⟩, hB', hF'⟩
    obtain ⟨o, ho, hr⟩ := hl''
    refine ⟨o, (hs.2 p.1 fun e => ?_).trans ho, hr⟩
    rcases List.mem_append.mp hpm with hq | hq
    · exact hnd2.2.2 p.1 (List.mem_map.mpr ⟨p, hq, rfl⟩) a (.head _) e
    · exact (List.nodup_cons.mp hnd2.2.1).1 (List.mem_map.mpr ⟨p, hq, e⟩)
  · rw [List.map_append, List.map_cons]; exact hnd

theorem lookup_getElem {nm : Nm} (hn : (nm.map (·.1)).Nodup) {i j : Nat} {x : Str} {k k' : NameKind} (hi : nm[i]? = some (x, k)) (hj : nm[j]? = some (x, k')) : i = j := by
  have h1 : (nm.map (·.1))[i]? = some x := by rw [List.getElem?_map, hi]; rfl
  have h2 : (nm.map (·.1))[j]? = some x := by rw [List.getElem?_map, hj]; rfl
  have hlt : i < (nm.map (·.1)).length := (List.getElem?_eq_some_iff.mp h1).1
  exact (List.getElem?_inj hlt hn).mp (h1.trans h2.symm)

/-- a local name is stored -/
theorem Rel.setLocal (R : Rel h₀ s₀ B F nm env σ μ s) (E : EnvOk nm env) {i : Nat} {x : Str} {w : WV} {V : Value} {h' : Heap} {tk : Nat} {m : Str → Option Value} (hi : nm[i]? = some (x, .local))
    (hw : WOk F V w) (hm : s.heap.Ns env.locals m) (hs : Heap.SameBut env.locals s.heap h') (hn : h'.Ns env.locals (fun y => if y = x then some V else m y)) :
    Rel h₀ s₀ B F nm env (σ.set i (some w)) μ { s with heap := h', toks := tk } := by
  obtain ⟨h, tk0, rfl⟩ := R.same
  have nsu : ∀ m', h.Ns env.locals m' → m' = m := fun m' hm' => by
    obtain ⟨o, es, ep, ho, hd, _, h1⟩ := hm
    obtain ⟨o', es', ep', ho', hd', _, h1'⟩ := hm'
    rw [ho] at ho'; cases ho'; rw [hd] at hd'; cases hd'
    funext y; exact (h1' y).symm.trans (h1 y)
  refine ⟨⟨_, _, rfl⟩, R.baseF, fun b o e => (hs.2 b fun q => R.nsB o (q ▸ e)).trans (R.keepB b o e), fun b o e => (hs.2 b fun q => R.nsF o (q ▸ e)).trans (R.keepF b o e), ⟨_, hn⟩, R.nsB, R.nsF, ?_, R.cellsX, R.cellsF, R.apart, ?_, ?_, R.nodup⟩
  · intro x c hc; obtain ⟨v, hv⟩ := R.cells x c hc; exact ⟨v, hv.sameBut hs (ns_cell_ne hm hv)⟩
  · intro j y k w' hj hw'
    by_cases hij : j = i
    · subst hij
      rw [hi] at hj; cases hj
      rw [List.getElem?_set] at hw'
      simp only [if_true] at hw'
      split at hw'
      · cases hw'; exact ⟨V, ⟨_, hn, by simp⟩, hw⟩
      · cases hw'
    · rw [List.getElem?_set_ne (fun e => hij e.symm)] at hw'
      obtain ⟨V', hV', hW'⟩ := R.vars j y k w' hj hw'
      refine ⟨V', ?_, hW'⟩
      have hyx : y ≠ x := fun e => hij (lookup_getElem E.names hj (e ▸ hi))
      cases k <;> first
        | exact hV'.elim
        | (obtain ⟨m', a, b⟩ := hV'; rw [nsu m' a] at b; exact ⟨_, hn, by simp [hyx, b]⟩)
        | (obtain ⟨c, a, b⟩ := hV'; exact ⟨c, a, b.sameBut hs (ns_cell_ne hm b)⟩)
  · intro p hp
    obtain ⟨⟨vs, ⟨o, ho, hr⟩, hD⟩, hB, hF⟩ := R.mu p hp
    exact ⟨⟨vs, ⟨o, (hs.2 p.1 (ns_get_ne hm (ML.isList ⟨o, ho, hr⟩))).trans ho, hr⟩, hD⟩, hB, hF⟩

/-- a cell's name is stored -/
theorem Rel.setCell (R : Rel h₀ s₀ B F nm env σ μ s) (E : EnvOk nm env) {i : Nat} {x : Str} {w : WV} {V : Value} {h' : Heap} {tk : Nat} {c : Addr} (hi : nm[i]? = some (x, .cell))
    (hw : WOk F V w) (hc : env.cells.lookup x = some c) (hs : Heap.SameBut c s.heap h') (hn : h'.IsCell c (some V)) :
    Rel h₀ s₀ B F nm env (σ.set i (some w)) μ { s with heap := h', toks := tk } := by
  obtain ⟨h, tk0, rfl⟩ := R.same
  have hfn : env.func.isSome = true := (E.cel x (List.mem_of_getElem? hi)).2.1
  obtain ⟨v0, hc0⟩ := R.cells x c hc
  obtain ⟨m, hm⟩ := R.ns
  have hLc : env.locals ≠ c := (ns_cell_ne hm hc0).symm
  have hcB := R.cellsF hfn x c hc
  have hcF := R.cellsX x c hc
  have ocell : ∀ y c' v, y ≠ x → env.cells.lookup y = some c' → h.IsCell c' v → h'.IsCell c' v := fun y c' v hy hl hcv =>
    hcv.sameBut hs fun e => hy (R.apart hfn y x c' hl (e ▸ hc))
  refine ⟨⟨_, _, rfl⟩, R.baseF, fun b o e => (hs.2 b fun q => hcB o (q ▸ e)).trans (R.keepB b o e), fun b o e => (hs.2 b fun q => hcF o (q ▸ e)).trans (R.keepF b o e), ⟨m, hm.sameBut hs hLc⟩, R.nsB, R.nsF, ?_, R.cellsX, R.cellsF, R.apart, ?_, ?_, R.nodup⟩
  · intro y c' hc'
    by_cases hy : y = x
    · subst hy; rw [hc] at hc'; cases hc'; exact ⟨_, hn⟩
    · obtain ⟨v, hv⟩ := R.cells y c' hc'; exact ⟨v, ocell y c' v hy hc' hv⟩
  · intro j y k w' hj hw'
    by_cases hij : j = i
    · subst hij
      rw [hi] at hj; cases hj
      rw [List.getElem?_set] at hw'
      simp only [if_true] at hw'
      split at hw'
      · cases hw'; exact ⟨V, ⟨c, hc, hn⟩, hw⟩
      · cases hw'
    · rw [List.getElem?_set_ne (fun e => hij e.symm)] at hw'
      obtain ⟨V', hV', hW'⟩ := R.vars j y k w' hj hw'
      refine ⟨V', ?_, hW'⟩
      have hyx : y ≠ x := fun e => hij (lookup_getElem E.names hj (e ▸ hi))
      exact hV'.but (fun m' hm' => hm'.sameBut hs hLc) (fun c' v hl hcv => ocell y c' v hyx hl hcv)
  · intro p hp
    obtain ⟨⟨vs, ⟨o, ho, hr⟩, hD⟩, hB, hF⟩ := R.mu p hp
    exact ⟨⟨vs, ⟨o, (hs.2 p.1 (cell_list_ne hc0 (ML.isList ⟨o, ho, hr⟩))).trans ho, hr⟩, hD⟩, hB, hF⟩
end
end Mine
end
section
open PySem PySem.W PySem.Calls PyProof.Rows
set_option linter.unusedVariables false
namespace Mine

structure Cx where
  p : Program
  w : World
  h₀ : Heap
  mg : Str → Option Value
  mb : Str → Option Value
  lim : h₀.NoLimit
  seer : h₀.NoSeer
  tree : p.given.tree = none
  g : h₀.Ns mainGlobals mg
  b : h₀.Ns builtinsNs mb

structure Lx where
  nm : Nm
  env : Env
  k : Nat
  ok : EnvOk nm env

noncomputable def Room (k : Nat) (A : Around) : Prop := A.handled = none ∧ A.depth + k ≤ 800 ∧ A.units + 8 * k ≤ 9000 ∧
  ∃ e l, A.frames = some (e :: l) ∧ e.scope.isGenerator = false ∧ e.scope.isCoroutine = false ∧ e.builtins = builtinsNs ∧ e.globals = mainGlobals

/-- how a run ends: more is frozen, the relation holds, the value bears its datum -/
inductive Pst (C : Cx) (L : Lx) {α β : Type} (s₀ : Shared) (B F : Fz) (R : Fz → α → β → Prop) (Q : β → Sg → Mu → Prop) (a : α) (s' : Shared) : Prop
  | mk (F' : Fz) (b : β) (σ' : Sg) (μ' : Mu) (nx : Nx B F F') (rel : Rel C.h₀ s₀ B F' L.nm L.env σ' μ' s') (ok : R F' a b) (post : Q b σ' μ')

noncomputable def JdW (C : Cx) (L : Lx) {α β : Type} (P : Fz → Prop) (t : Sem α) (R : Fz → α → β → Prop) (σ : Sg) (μ : Mu) (Q : β → Sg → Mu → Prop) : Prop :=
  ∀ A s₀ B F s, Room L.k A → Rel C.h₀ s₀ B F L.nm L.env σ μ s → P F →
    wpAny (model C.p C.w) A t (Pst C L s₀ B F R Q) (fun _ _ => False) s

theorem WOk.v {F : Fz} {V : Value} {d : PyData} (h : DF F V d) : WOk F V (.val d) := h

inductive WOks (F : Fz) : List Value → List WV → Prop
  | nil : WOks F [] []
  | cons {v w vs ws} : WOk F v w → WOks F vs ws → WOks F (v :: vs) (w :: ws)
theorem WOks.mono {F G : Fz} (h : F.le G) : ∀ {vs ws}, WOks F vs ws → WOks G vs ws
  | _, _, .nil => .nil
  | _, _, .cons x r => .cons (x.mono h) (r.mono h)

noncomputable abbrev Eq2 {β : Type} : Fz → β → β → Prop := fun _ a b => a = b

noncomputable abbrev EvA (C : Cx) (L : Lx) (e : Expr) (σ : Sg) (μ : Mu) (Q : WV → Sg → Mu → Prop) : Prop := JdW C L (fun _ => True) (eval e L.env) WOk σ μ Q
noncomputable abbrev TrA (C : Cx) (L : Lx) (e : Expr) (σ : Sg) (μ : Mu) (Q : Bool → Sg → Mu → Prop) : Prop := JdW C L (fun _ => True) (isTrue e L.env (eval e L.env)) Eq2 σ μ Q
noncomputable def OpA (C : Cx) (L : Lx) (f : Value → Value → Sem Value) (w1 w2 : WV) (σ : Sg) (μ : Mu) (Q : WV → Sg → Mu → Prop) : Prop :=
  ∀ V1 V2, JdW C L (fun F => WOk F V1 w1 ∧ WOk F V2 w2) (f V1 V2) WOk σ μ Q
noncomputable def Op1 (C : Cx) (L : Lx) (f : Value → Sem Value) (w : WV) (σ : Sg) (μ : Mu) (Q : WV → Sg → Mu → Prop) : Prop :=
  ∀ V, JdW C L (fun F => WOk F V w) (f V) WOk σ μ Q
noncomputable abbrev ArA (C : Cx) (L : Lx) (pos : Pos) (es : List Expr) (σ : Sg) (μ : Mu) (Q : List WV → Sg → Mu → Prop) : Prop :=
  JdW C L (fun _ => True) (spliced (backTo pos (starEach es L.env))) WOks σ μ Q
/-- the call of a value -/
noncomputable def ClA (C : Cx) (L : Lx) (f : Value) (ws : List WV) (σ : Sg) (μ : Mu) (Q : WV → Sg → Mu → Prop) : Prop :=
  ∀ vs, JdW C L (fun F => WOks F vs ws) (call f vs) WOk σ μ Q

/-! ## Continuations, named: so that the end wanted stands once, not copied under binders -/
noncomputable abbrev KOp (C : Cx) (L : Lx) (f : Value → Value → Sem Value) (w1 : WV) (Q : WV → Sg → Mu → Prop) : WV → Sg → Mu → Prop := fun w2 σ μ => OpA C L f w1 w2 σ μ Q
noncomputable abbrev KArg2 (C : Cx) (L : Lx) (e2 : Expr) (f : Value → Value → Sem Value) (Q : WV → Sg → Mu → Prop) : WV → Sg → Mu → Prop := fun w1 σ μ => EvA C L e2 σ μ (KOp C L f w1 Q)
noncomputable abbrev KOp1 (C : Cx) (L : Lx) (f : Value → Sem Value) (Q : WV → Sg → Mu → Prop) : WV → Sg → Mu → Prop := fun w σ μ => Op1 C L f w σ μ Q
inductive KBool (Q : Bool → Sg → Mu → Prop) (w : WV) (σ : Sg) (μ : Mu) : Prop
  | mk (b : Bool) (e : w = .val (.bool b)) (h : Q b σ μ)
noncomputable abbrev KAnd (C : Cx) (L : Lx) (e : Expr) (Q : Bool → Sg → Mu → Prop) : Bool → Sg → Mu → Prop := fun b σ μ => if b then TrA C L e σ μ Q else Q false σ μ
noncomputable abbrev KOr (C : Cx) (L : Lx) (e : Expr) (Q : Bool → Sg → Mu → Prop) : Bool → Sg → Mu → Prop := fun b σ μ => if b then Q true σ μ else TrA C L e σ μ Q
noncomputable abbrev KIf (C : Cx) (L : Lx) (b o : Expr) (Q : WV → Sg → Mu → Prop) : Bool → Sg → Mu → Prop := fun c σ μ => if c then EvA C L b σ μ Q else EvA C L o σ μ Q
noncomputable abbrev KAndV (C : Cx) (L : Lx) (e : Expr) (Q : WV → Sg → Mu → Prop) : WV → Sg → Mu → Prop := fun w σ μ => ∃ b, w = .val (.bool b) ∧ if b then EvA C L e σ μ Q else Q (.val (.bool false)) σ μ
noncomputable abbrev KCons (w : WV) (Q : List WV → Sg → Mu → Prop) : List WV → Sg → Mu → Prop := fun ws σ μ => Q (w :: ws) σ μ
noncomputable abbrev KArg (C : Cx) (L : Lx) (pos : Pos) (es : List Expr) (Q : List WV → Sg → Mu → Prop) : WV → Sg → Mu → Prop := fun w σ μ => ArA C L pos es σ μ (KCons w Q)
inductive KFrz (Q : WV → Sg → Mu → Prop) (w : WV) (σ' : Sg) (μ' : Mu) : Prop
  | mk (l : Addr) (ds : List PyData) (pre post : Mu) (e : w = .adr l) (em : μ' = pre ++ (l, ds) :: post) (h : Q (.val (.list ds)) σ' (pre ++ post))
inductive KTwo (Q : WV → Sg → Mu → Prop) (ws : List WV) (σ1 : Sg) (μ1 : Mu) : Prop
  | mk (w1 w2 : WV) (e : ws = [w1, w2]) (h : Q (.two w1 w2) σ1 μ1)
noncomputable abbrev KCl (C : Cx) (L : Lx) (f : Value) (Q : WV → Sg → Mu → Prop) : List WV → Sg → Mu → Prop := fun ws σ1 μ1 => ClA C L f ws σ1 μ1 Q

section
variable {C : Cx} {L : Lx} {σ : Sg} {μ : Mu}

theorem JdW.mono {α β : Type} {P : Fz → Prop} {t : Sem α} {R : Fz → α → β → Prop} {Q Q' : β → Sg → Mu → Prop} (h : JdW C L P t R σ μ Q) (hq : ∀ b σ' μ', Q b σ' μ' → Q' b σ' μ') : JdW C L P t R σ μ Q' :=
  fun A s₀ B F s hr hR hP => wpAny_mono (h A s₀ B F s hr hR hP) (fun _ _ ⟨F', b, σ', μ', a1, a2, a3, a4⟩ => ⟨F', b, σ', μ', a1, a2, a3, hq _ _ _ a4⟩) fun _ _ x => x

theorem JdW.pre {α β : Type} {P P' : Fz → Prop} {t : Sem α} {R : Fz → α → β → Prop} {Q : β → Sg → Mu → Prop} (h : JdW C L P t R σ μ Q) (hp : ∀ F, P' F → P F) : JdW C L P' t R σ μ Q :=
  fun A s₀ B F s hr hR hP => h A s₀ B F s hr hR (hp F hP)

/-- sequencing under a rule of two steps -/
theorem wp_then {α β : Type} {A : Around} {s₀ : Shared} {B F : Fz} {P : Fz → Prop} {t : Sem α} {R : Fz → α → β → Prop} {Q : β → Sg → Mu → Prop} {s : Shared} {K : α → Shared → Prop}
    (h : JdW C L P t R σ μ Q) (hr : Room L.k A) (hR : Rel C.h₀ s₀ B F L.nm L.env σ μ s) (hP : P F)
    (hk : ∀ a s' F' b σ' μ', Nx B F F' → Rel C.h₀ s₀ B F' L.nm L.env σ' μ' s' → R F' a b → Q b σ' μ' → K a s') :
    wpAny (model C.p C.w) A t K (fun _ _ => False) s :=
  wpAny_mono (h A s₀ B F s hr hR hP) (fun _ _ ⟨F', b, σ', μ', a1, a2, a3, a4⟩ => hk _ _ F' b σ' μ' a1 a2 a3 a4) fun _ _ x => x

/-- weaken the end by earlier growth -/
theorem wp_nx {α β : Type} {A : Around} {s₀ : Shared} {B F F1 : Fz} {t : Sem α} {R : Fz → α → β → Prop} {Q : β → Sg → Mu → Prop} {s : Shared} (n : Nx B F F1)
    (h : wpAny (model C.p C.w) A t (Pst C L s₀ B F1 R Q) (fun _ _ => False) s) :
    wpAny (model C.p C.w) A t (Pst C L s₀ B F R Q) (fun _ _ => False) s :=
  wpAny_mono h (fun _ _ ⟨F', b, σ', μ', a1, a2, a3, a4⟩ => ⟨F', b, σ', μ', n.trans a1, a2, a3, a4⟩) fun _ _ x => x

theorem JdW.bind {α β γ δ : Type} {P : Fz → Prop} {t : Sem α} {f : α → Sem γ} {R : Fz → α → β → Prop} {R' : Fz → γ → δ → Prop} {Q1 : β → Sg → Mu → Prop} {Q : δ → Sg → Mu → Prop}
    (h : JdW C L P t R σ μ Q1) (hf : ∀ b σ' μ', Q1 b σ' μ' → ∀ a, JdW C L (fun F => R F a b) (f a) R' σ' μ' Q) : JdW C L P (t >>= f) R' σ μ Q :=
  fun A s₀ B F s hr hR hP => wpAny_bind (wp_then h hr hR hP fun a s' F' b σ' μ' n R' o q => wp_nx n (hf b σ' μ' q a A s₀ B F' s' hr R' o))

theorem JdW.pure {α β : Type} {P : Fz → Prop} {a : α} {b : β} {R : Fz → α → β → Prop} {Q : β → Sg → Mu → Prop} (hr : ∀ F, P F → R F a b) (h : Q b σ μ) : JdW C L P (Pure.pure a) R σ μ Q :=
  fun _ _ B F _ _ hR hP => wpAny_pure ⟨F, b, σ, μ, Nx.refl B F, hR, hr F hP, h⟩

/-- a fresh list is frozen at once -/
theorem JdW.frz {P : Fz → Prop} {t : Sem Value} {Q : WV → Sg → Mu → Prop}
    (h : JdW C L P t WOk σ μ (KFrz Q)) : JdW C L P t WOk σ μ Q :=
  fun A s₀ B F s hr hR hP => wp_then h hr hR hP fun V s' F' w σ' μ' n R' o q => by
    obtain ⟨l, ds, pre, post, rfl, rfl, hq⟩ := q
    have e : V = .ref l := o
    subst e
    obtain ⟨F'', n', R'', hd⟩ := R'.freeze
    exact ⟨F'', _, σ', pre ++ post, n.trans n', R'', WOk.v hd, hq⟩

/-! ### atoms -/
theorem EvA.name {x : Str} {pos : Pos} {k : NameKind} {w : WV} {Q : WV → Sg → Mu → Prop} (i : Nat) (hi : L.nm[i]? = some (x, k)) (hw : σ[i]? = some (some w)) (h : Q w σ μ) :
    EvA C L (.Name x pos) σ μ Q := fun A s₀ B F s hr hR _ => by
  obtain ⟨V, hV, hW⟩ := hR.vars i x k w hi hw
  have hd := L.ok.dbg _ (List.mem_of_getElem? hi)
  have fin : Pst C L s₀ B F WOk Q V s := ⟨F, w, σ, μ, Nx.refl B F, hR, hW, h⟩
  cases k with
  | «local» =>
    obtain ⟨m, hm, hx⟩ := hV
    exact wpAny_Name (wpAny_loadName_local L.ok.kind (L.ok.loc x (List.mem_of_getElem? hi)) hm hx fin) hd
  | cell =>
    obtain ⟨c, hc, hx⟩ := hV
    exact wpAny_Name (wpAny_loadName_cell L.ok.kind (L.ok.cel x (List.mem_of_getElem? hi)).1 hc hx fin) hd
  | free =>
    obtain ⟨c, hc, hx⟩ := hV
    obtain ⟨hk, hn⟩ := L.ok.fre x (List.mem_of_getElem? hi)
    rcases hk with hk | hk
    · exact wpAny_Name (wpAny_loadName_cell L.ok.kind hk hc hx fin) hd
    · exact wpAny_Name (wpAny_loadName_free L.ok.kind hk hc hx fin hn) hd
  | _ => exact hV.elim

/-- a global name's value -/
noncomputable def GV (C : Cx) (x : Str) (d : PyData) : Prop := ∃ V, C.mg x = some V ∧ DF (fun b o => C.h₀.get? b = some o) V d

theorem Rel.mgAt {s₀ : Shared} {B F : Fz} {nm : Nm} {env : Env} {s : Shared} (hR : Rel C.h₀ s₀ B F nm env σ μ s) : s.heap.Ns mainGlobals C.mg :=
  C.g.keeps fun b o e => hR.keepF b o (hR.baseF b o e)
theorem Rel.mbAt {s₀ : Shared} {B F : Fz} {nm : Nm} {env : Env} {s : Shared} (hR : Rel C.h₀ s₀ B F nm env σ μ s) : s.heap.Ns builtinsNs C.mb :=
  C.b.keeps fun b o e => hR.keepF b o (hR.baseF b o e)

theorem wp_global {A : Around} {s₀ : Shared} {B F : Fz} {s : Shared} {x : Str} {pos : Pos} {V : Value} {i : Nat} {K : Value → Shared → Prop} (hR : Rel C.h₀ s₀ B F L.nm L.env σ μ s)
    (hi : L.nm[i]? = some (x, .globalImplicit)) (hv : C.mg x = some V) (h : K V s) : wpAny (model C.p C.w) A (eval (.Name x pos) L.env) K (fun _ _ => False) s :=
  Name_function_global L.ok.kind (L.ok.glo x (List.mem_of_getElem? hi)) (loadGlobal_global (by rw [L.ok.glob]; exact hR.mgAt) hv h) (L.ok.dbg _ (List.mem_of_getElem? hi))

theorem EvA.glob {x : Str} {pos : Pos} {d : PyData} {Q : WV → Sg → Mu → Prop} (i : Nat) (hi : L.nm[i]? = some (x, .globalImplicit)) (hv : GV C x d) (h : Q (.val d) σ μ) :
    EvA C L (.Name x pos) σ μ Q := fun A s₀ B F s hr hR _ => by
  obtain ⟨V, hm, hd⟩ := hv
  exact wp_global hR hi hm ⟨F, _, σ, μ, Nx.refl B F, hR, WOk.v (hd.mono (fun b o e => hR.baseF b o e)), h⟩

theorem wp_builtin {A : Around} {s₀ : Shared} {B F : Fz} {s : Shared} {x : Str} {pos : Pos} {V : Value} {i : Nat} {K : Value → Shared → Prop} (hR : Rel C.h₀ s₀ B F L.nm L.env σ μ s)
    (hi : L.nm[i]? = some (x, .globalImplicit)) (hm : C.mg x = none) (hv : C.mb x = some V) (h : K V s) : wpAny (model C.p C.w) A (eval (.Name x pos) L.env) K (fun _ _ => False) s :=
  Name_function_global L.ok.kind (L.ok.glo x (List.mem_of_getElem? hi)) (loadGlobal_builtin (by rw [L.ok.glob]; exact hR.mgAt) hm (by rw [L.ok.bi]; exact hR.mbAt) hv h) (L.ok.dbg _ (List.mem_of_getElem? hi))

theorem EvA.cint {i : Int} {k : Nat} {pos : Pos} {Q : WV → Sg → Mu → Prop} (h : Q (.val (.int i)) σ μ) : EvA C L (.Constant (.int i) k pos) σ μ Q := fun A s₀ B F s hr hR _ =>
  wpAny_Constant_int ⟨F, _, σ, μ, Nx.refl B F, hR.tok _, WOk.v (.int _ _), h⟩
theorem EvA.cbool {b : Bool} {k : Nat} {pos : Pos} {Q : WV → Sg → Mu → Prop} (h : Q (.val (.bool b)) σ μ) : EvA C L (.Constant (.bool b) k pos) σ μ Q := fun A s₀ B F s hr hR _ =>
  wpAny_Constant_bool ⟨F, _, σ, μ, Nx.refl B F, hR, WOk.v (.bool _), h⟩
theorem EvA.cnone {k : Nat} {pos : Pos} {Q : WV → Sg → Mu → Prop} (h : Q (.val .none) σ μ) : EvA C L (.Constant .none k pos) σ μ Q := fun A s₀ B F s hr hR _ =>
  wpAny_Constant_none ⟨F, _, σ, μ, Nx.refl B F, hR, WOk.v .none, h⟩

/-! ### operators -/
theorem EvA.bin {e1 e2 : Expr} {op : Operator} {pos : Pos} {Q : WV → Sg → Mu → Prop}
    (h : EvA C L e1 σ μ (KArg2 C L e2 (binaryOp op) Q)) : EvA C L (.BinOp e1 op e2 pos) σ μ Q :=
  fun A s₀ B F s hr hR _ => wpAny_BinOp (wp_then h hr hR trivial fun V1 s1 F1 w1 σ1 μ1 n1 R1 o1 q1 => wp_then q1 hr R1 trivial fun V2 s2 F2 w2 σ2 μ2 n2 R2 o2 q2 =>
    wp_nx (n1.trans n2) (q2 V1 V2 A s₀ B F2 s2 hr R2 ⟨o1.mono n2.1, o2⟩))
theorem EvA.un {e : Expr} {op : UnaryOp} {pos : Pos} {Q : WV → Sg → Mu → Prop}
    (h : EvA C L e σ μ (KOp1 C L (unaryOp op) Q)) : EvA C L (.UnaryOp op e pos) σ μ Q :=
  fun A s₀ B F s hr hR _ => UnaryOp_ (wp_then h hr hR trivial fun V1 s1 F1 w1 σ1 μ1 n1 R1 o1 q1 => wp_nx n1 (q1 V1 A s₀ B F1 s1 hr R1 o1))
theorem EvA.cmp {e1 e2 : Expr} {op : CmpOp} {pos : Pos} {Q : WV → Sg → Mu → Prop}
    (h : EvA C L e1 σ μ (KArg2 C L e2 (compareOp op) Q)) (hb : behindInMarks op e2 = false := by rfl) : EvA C L (.Compare e1 [op] [e2] pos) σ μ Q :=
  fun A s₀ B F s hr hR _ => wpAny_Compare1 (wp_then h hr hR trivial fun V1 s1 F1 w1 σ1 μ1 n1 R1 o1 q1 => wp_then q1 hr R1 trivial fun V2 s2 F2 w2 σ2 μ2 n2 R2 o2 q2 =>
    wp_nx (n1.trans n2) (q2 V1 V2 A s₀ B F2 s2 hr R2 ⟨o1.mono n2.1, o2⟩)) hb
theorem TrA.cmp {e1 e2 : Expr} {op : CmpOp} {pos : Pos} {Q : Bool → Sg → Mu → Prop}
    (h : EvA C L e1 σ μ (KArg2 C L e2 (compareOp op) (KBool Q))) (hb : behindInMarks op e2 = false := by rfl) : TrA C L (.Compare e1 [op] [e2] pos) σ μ Q :=
  fun A s₀ B F s hr hR _ => wpAny_isTrue_Compare1 (wp_then h hr hR trivial fun V1 s1 F1 w1 σ1 μ1 n1 R1 o1 q1 => wp_then q1 hr R1 trivial fun V2 s2 F2 w2 σ2 μ2 n2 R2 o2 q2 =>
    wp_then (q2 V1 V2) hr R2 ⟨o1.mono n2.1, o2⟩ fun V3 s3 F3 w3 σ3 μ3 n3 R3 o3 q3 => by
      obtain ⟨b, rfl, hq⟩ := q3
      rw [DF.bool_inv o3]
      exact wpAny_truthy_bool ⟨F3, b, σ3, μ3, n1.trans (n2.trans n3), R3, rfl, hq⟩) hb
theorem TrA.and_nil {pos : Pos} {Q : Bool → Sg → Mu → Prop} (h : Q true σ μ) : TrA C L (.BoolOp .And [] pos) σ μ Q :=
  fun A s₀ B F s hr hR _ => isTrue_and_nil ⟨F, true, σ, μ, Nx.refl B F, hR, rfl, h⟩
theorem TrA.or_nil {pos : Pos} {Q : Bool → Sg → Mu → Prop} (h : Q false σ μ) : TrA C L (.BoolOp .Or [] pos) σ μ Q :=
  fun A s₀ B F s hr hR _ => isTrue_or_nil ⟨F, false, σ, μ, Nx.refl B F, hR, rfl, h⟩
theorem TrA.and_cons {e : Expr} {es : List Expr} {pos : Pos} {Q : Bool → Sg → Mu → Prop}
    (h : TrA C L e σ μ (KAnd C L (.BoolOp .And es pos) Q)) : TrA C L (.BoolOp .And (e :: es) pos) σ μ Q :=
  fun A s₀ B F s hr hR _ => isTrue_and (wp_then h hr hR trivial fun a s1 F1 b σ1 μ1 n1 R1 o1 q1 => by
    have e : a = b := o1
    subst e
    cases a with
    | false => exact ⟨F1, false, σ1, μ1, n1, R1, rfl, q1⟩
    | true => exact wp_nx n1 (q1 A s₀ B F1 s1 hr R1 trivial))
theorem TrA.or_cons {e : Expr} {es : List Expr} {pos : Pos} {Q : Bool → Sg → Mu → Prop}
    (h : TrA C L e σ μ (KOr C L (.BoolOp .Or es pos) Q)) : TrA C L (.BoolOp .Or (e :: es) pos) σ μ Q :=
  fun A s₀ B F s hr hR _ => isTrue_or (wp_then h hr hR trivial fun a s1 F1 b σ1 μ1 n1 R1 o1 q1 => by
    have e : a = b := o1
    subst e
    cases a with
    | true => exact ⟨F1, true, σ1, μ1, n1, R1, rfl, q1⟩
    | false => exact wp_nx n1 (q1 A s₀ B F1 s1 hr R1 trivial))
theorem EvA.ifexp {t b o : Expr} {pos : Pos} {Q : WV → Sg → Mu → Prop}
    (h : TrA C L t σ μ (KIf C L b o Q)) : EvA C L (.IfExp t b o pos) σ μ Q :=
  fun A s₀ B F s hr hR _ => IfExp_ (wp_then h hr hR trivial fun a s1 F1 c σ1 μ1 n1 R1 o1 q1 => by
    have e : a = c := o1
    subst e
    cases a with
    | true => exact wp_nx n1 (q1 A s₀ B F1 s1 hr R1 trivial)
    | false => exact wp_nx n1 (q1 A s₀ B F1 s1 hr R1 trivial))
theorem EvA.and_one {e : Expr} {pos : Pos} {Q : WV → Sg → Mu → Prop} (h : EvA C L e σ μ Q) : EvA C L (.BoolOp .And [e] pos) σ μ Q := h
theorem EvA.and_cons {e e2 : Expr} {es : List Expr} {pos : Pos} {Q : WV → Sg → Mu → Prop}
    (h : EvA C L e σ μ (KAndV C L (.BoolOp .And (e2 :: es) pos) Q)) : EvA C L (.BoolOp .And (e :: e2 :: es) pos) σ μ Q :=
  fun A s₀ B F s hr hR _ => BoolOp_and (wp_then h hr hR trivial fun V1 s1 F1 w1 σ1 μ1 n1 R1 o1 q1 => by
    obtain ⟨b, rfl, hq⟩ := q1
    rw [DF.bool_inv o1]
    cases b with
    | true => exact wpAny_truthy_bool (wp_nx n1 (hq A s₀ B F1 s1 hr R1 trivial))
    | false => exact wpAny_truthy_bool ⟨F1, _, σ1, μ1, n1, R1, WOk.v (.bool _), hq⟩)

/-! ### displays -/
theorem ArA.nil {pos : Pos} {Q : List WV → Sg → Mu → Prop} (h : Q [] σ μ) : ArA C L pos [] σ μ Q :=
  fun A s₀ B F s hr hR _ => args_nil ⟨F, [], σ, μ, Nx.refl B F, hR, .nil, h⟩
theorem ArA.cons {pos : Pos} {e : Expr} {es : List Expr} {Q : List WV → Sg → Mu → Prop}
    (h : EvA C L e σ μ (KArg C L pos es Q))
    (he : starEach (e :: es) L.env = (false, eval e L.env) :: starEach es L.env := by rfl) : ArA C L pos (e :: es) σ μ Q :=
  fun A s₀ B F s hr hR _ => args_cons (wp_then h hr hR trivial fun V1 s1 F1 w1 σ1 μ1 n1 R1 o1 q1 => wp_then q1 hr R1 trivial fun Vs s2 F2 ws σ2 μ2 n2 R2 o2 q2 =>
    ⟨F2, w1 :: ws, σ2, μ2, n1.trans n2, R2, .cons (o1.mono n2.1) o2, q2⟩) he

noncomputable def vals : List WV → Option (List PyData)
  | [] => some []
  | .val d :: r => (vals r).map (d :: ·)
  | _ => none
inductive KTup (Q : WV → Sg → Mu → Prop) (ws : List WV) (σ1 : Sg) (μ1 : Mu) : Prop
  | mk (ds : List PyData) (e : vals ws = some ds) (z : ds.length ≤ sizeLine) (h : Q (.val (.tuple ds)) σ1 μ1)
inductive KList (Q : WV → Sg → Mu → Prop) (ws : List WV) (σ1 : Sg) (μ1 : Mu) : Prop
  | mk (ds : List PyData) (e : vals ws = some ds) (z : ds.length ≤ sizeLine) (h : ∀ l, Q (.adr l) σ1 ((l, ds) :: μ1))
theorem WOks.vals {F : Fz} {ws : List WV} : ∀ {vs : List Value} {ds : List PyData}, WOks F vs ws → vals ws = some ds → DFs F vs ds := by
  induction ws with
  | nil =>
    intro vs ds h hv
    cases h; cases hv; exact .nil
  | cons w r ih =>
    intro vs ds h hv
    cases h with
    | cons x y =>
      cases w with
      | val d =>
        simp only [Mine.vals] at hv
        cases hr : Mine.vals r with
        | none => rw [hr] at hv; cases hv
        | some es =>
          rw [hr] at hv
          cases hv
          exact .cons x (ih y hr)
      | adr a => cases hv
      | two p q => cases hv

theorem push_obj {s₀ : Shared} {B F : Fz} {s : Shared} (hR : Rel C.h₀ s₀ B F L.nm L.env σ μ s) (o : Obj) (tk : Nat) (hf : o.isFreed = false) :
    Nx B F (fun b o' => F b o' ∨ (b = s.heap.objs.size ∧ o' = o)) ∧ Rel C.h₀ s₀ B (fun b o' => F b o' ∨ (b = s.heap.objs.size ∧ o' = o)) L.nm L.env σ μ { s with heap := s.heap.push o, toks := tk } := by
  have q := hR.grow (F' := fun b o' => F b o' ∨ (b = s.heap.objs.size ∧ o' = o)) (h' := s.heap.push o) (tk := tk) (fun b o' e => Heap.get?_push_of_some _ e) (fun _ _ x => .inl x)
    (fun b o' x => x.elim (fun q => Heap.get?_push_of_some _ (hR.keepF b o' q)) (fun q => by rw [q.1, q.2]; exact Heap.get?_push_size _ hf))
    (fun b o' x => x.imp id fun q => by rw [q.1]; exact Heap.get?_none_of_le (Nat.le_refl _))
  exact ⟨q.2, q.1⟩

theorem push_old {s₀ : Shared} {B F : Fz} {s : Shared} (hR : Rel C.h₀ s₀ B F L.nm L.env σ μ s) (o : Obj) (tk : Nat) : Rel C.h₀ s₀ B F L.nm L.env σ μ { s with heap := s.heap.push o, toks := tk } :=
  (hR.grow (F' := F) (h' := s.heap.push o) (tk := tk) (fun b o' e => Heap.get?_push_of_some _ e) (Fz.le.refl F) (fun b o' q => Heap.get?_push_of_some _ (hR.keepF b o' q)) (fun _ _ x => .inl x)).1

theorem fresh_off {s₀ : Shared} {B F : Fz} {s : Shared} (hR : Rel C.h₀ s₀ B F L.nm L.env σ μ s) {a : Addr} (ha : s.heap.objs.size ≤ a) : B.off a ∧ F.off a ∧ ∀ p ∈ μ, p.1 ≠ a :=
  ⟨fun o x => Nat.lt_irrefl _ (Nat.lt_of_lt_of_le (Heap.lt_size (hR.keepB a o x)) ha), fun o x => Nat.lt_irrefl _ (Nat.lt_of_lt_of_le (Heap.lt_size (hR.keepF a o x)) ha),
    fun p hp e => by obtain ⟨⟨vs, ⟨o, ho, _⟩, _⟩, _⟩ := hR.mu p hp; rw [e] at ho; exact Nat.lt_irrefl _ (Nat.lt_of_lt_of_le (Heap.lt_size ho) ha)⟩

/-- a new list object joins the ledger -/
theorem push_list {s₀ : Shared} {B F : Fz} {s : Shared} (hR : Rel C.h₀ s₀ B F L.nm L.env σ μ s) {vs : Array Value} {ds : List PyData} (n : Nat) (hd : DFs F vs.toList ds) (tk : Nat) :
    Rel C.h₀ s₀ B F L.nm L.env σ ((s.heap.objs.size, ds) :: μ) { s with heap := s.heap.push { cls := .type "list", data := .seq vs n }, toks := tk } := by
  obtain ⟨h1, h2, h3⟩ := fresh_off hR (Nat.le_refl _)
  exact (push_old hR _ tk).newList ⟨_, Heap.get?_push_size _ rfl, n, rfl⟩ hd h1 h2 h3

theorem DFs.len {F : Fz} {vs : List Value} {ds : List PyData} (h : DFs F vs ds) : vs.length = ds.length := h.length

theorem EvA.tuple {es : List Expr} {k : Nat} {pos : Pos} {Q : WV → Sg → Mu → Prop}
    (h : ArA C L pos es σ μ (KTup Q)) : EvA C L (.Tuple es k pos) σ μ Q :=
  fun A s₀ B F s hr hR _ => wpAny_Tuple (wp_then h hr hR trivial fun Vs s1 F1 ws σ1 μ1 n1 R1 o1 q1 => by
    obtain ⟨ds, hv, hsz, hq⟩ := q1
    have hd := o1.vals hv
    refine ⟨by rw [hd.length]; exact hsz, ?_⟩
    obtain ⟨n2, R2⟩ := push_obj R1 { cls := .type "tuple", data := .seq Vs.toArray } s1.toks rfl
    exact ⟨_, _, σ1, μ1, n1.trans n2, R2, WOk.v (.tuple (.inr ⟨rfl, rfl⟩) rfl rfl (by simpa using hd.mono n2.1)), hq⟩)

theorem EvA.two {e1 e2 : Expr} {k : Nat} {pos : Pos} {Q : WV → Sg → Mu → Prop}
    (h : ArA C L pos [e1, e2] σ μ (KTwo Q)) : EvA C L (.Tuple [e1, e2] k pos) σ μ Q :=
  fun A s₀ B F s hr hR _ => wpAny_Tuple (wp_then h hr hR trivial fun Vs s1 F1 ws σ1 μ1 n1 R1 o1 q1 => by
    obtain ⟨w1, w2, rfl, hq⟩ := q1
    cases o1 with | cons x1 r => cases r with | cons x2 r2 => cases r2 with | nil =>
    refine ⟨by simp [sizeLine], ?_⟩
    obtain ⟨n2, R2⟩ := push_obj R1 { cls := .type "tuple", data := .seq [_, _].toArray } s1.toks rfl
    exact ⟨_, .two w1 w2, σ1, μ1, n1.trans n2, R2, ⟨_, _, _, _, _, rfl, .inr ⟨rfl, rfl⟩, rfl, rfl, x1.mono n2.1, x2.mono n2.1⟩, hq⟩)

theorem EvA.list {es : List Expr} {pos : Pos} {Q : WV → Sg → Mu → Prop}
    (h : ArA C L pos es σ μ (KList Q)) : EvA C L (.List es pos) σ μ Q :=
  fun A s₀ B F s hr hR _ => wpAny_List (wp_then h hr hR trivial fun Vs s1 F1 ws σ1 μ1 n1 R1 o1 q1 => by
    obtain ⟨ds, hv, hsz, hq⟩ := q1
    have hd := o1.vals hv
    refine ⟨by rw [hd.length]; exact hsz, ?_⟩
    exact ⟨F1, .adr s1.heap.objs.size, σ1, _, n1, push_list R1 (vs := Vs.toArray) 0 (by simpa using hd) s1.toks, rfl, hq _⟩)
end
end Mine
end
section
open PySem PySem.W PySem.Calls PyProof.Rows
set_option linter.unusedVariables false
namespace Mine

mutual
theorem DF.canLay {F : Fz} : ∀ {v : Value} {d : PyData}, DF F v d → d.canLay0 = true
  | _, _, .none => by simp [PyData.canLay0]
  | _, _, .bool b => by simp [PyData.canLay0]
  | _, _, .int i t => by simp [PyData.canLay0]
  | _, _, .list a b c r => by simpa [PyData.canLay0] using DFs.canLay r
  | _, _, .tuple a b c r => by simpa [PyData.canLay0] using DFs.canLay r
theorem DFs.canLay {F : Fz} : ∀ {vs : List Value} {ds : List PyData}, DFs F vs ds → PyData.canLayAll0 ds = true
  | _, _, .nil => by simp [PyData.canLayAll0]
  | _, _, .cons x r => by simp [PyData.canLayAll0, DF.canLay x, DFs.canLay r]
end

/-- list-like: a frozen list or one of the ledger -/
noncomputable def LL (μ : Mu) (w : WV) (xs : List PyData) : Prop := w = .val (.list xs) ∨ ∃ a, w = .adr a ∧ (a, xs) ∈ μ

theorem LL.at {h₀ : Heap} {s₀ : Shared} {B F : Fz} {nm : Nm} {env : Env} {σ : Sg} {μ : Mu} {s : Shared} {V : Value} {w : WV} {xs : List PyData} (h : LL μ w xs)
    (hR : Rel h₀ s₀ B F nm env σ μ s) (hw : WOk F V w) : ∃ a vs, V = .ref a ∧ s.heap.IsList a vs ∧ DFs F vs.toList xs := by
  rcases h with rfl | ⟨a, rfl, hm⟩
  · obtain ⟨a, o, vs, n, rfl, ho, hc, hd, hD⟩ := DF.list_inv hw
    exact ⟨a, vs, rfl, ⟨o, hR.keepF _ _ ho, hc, n, hd⟩, hD⟩
  · obtain ⟨⟨vs, hl, hD⟩, _⟩ := hR.mu _ hm
    exact ⟨a, vs, hw, hl.isList, hD⟩

section
variable {C : Cx} {L : Lx} {σ : Sg} {μ : Mu}

theorem keep0 {s₀ : Shared} {B F : Fz} {s : Shared} (hR : Rel C.h₀ s₀ B F L.nm L.env σ μ s) : ∀ b o, C.h₀.get? b = some o → s.heap.get? b = some o :=
  fun b o e => hR.keepF b o (hR.baseF b o e)

/-! ### int operators -/
theorem OpA.int {f : Value → Value → Sem Value} {a b r : Int} {Q : WV → Sg → Mu → Prop}
    (hf : ∀ A t u (s : Shared) (K : Value → Shared → Prop), Room L.k A → (∀ b o, C.h₀.get? b = some o → s.heap.get? b = some o) → K (.int r s.toks) { s with toks := s.toks + 1 } →
      wpAny (model C.p C.w) A (f (.int a t) (.int b u)) K (fun _ _ => False) s) (h : Q (.val (.int r)) σ μ) : OpA C L f (.val (.int a)) (.val (.int b)) σ μ Q :=
  fun V1 V2 A s₀ B F s hr hR ⟨h1, h2⟩ => by
    obtain ⟨t, rfl⟩ := DF.int_inv h1
    obtain ⟨u, rfl⟩ := DF.int_inv h2
    exact hf A t u s _ hr (keep0 hR) ⟨F, _, σ, μ, Nx.refl B F, hR.tok _, WOk.v (.int _ _), h⟩

theorem OpA.add {a b : Int} {Q : WV → Sg → Mu → Prop} (h : Q (.val (.int (a + b))) σ μ) : OpA C L (binaryOp .Add) (.val (.int a)) (.val (.int b)) σ μ Q :=
  OpA.int (fun _ _ _ _ _ _ _ hk => add_int hk) h
theorem OpA.sub {a b : Int} {Q : WV → Sg → Mu → Prop} (h : Q (.val (.int (a - b))) σ μ) : OpA C L (binaryOp .Sub) (.val (.int a)) (.val (.int b)) σ μ Q :=
  OpA.int (fun _ _ _ _ _ _ _ hk => sub_int hk) h
theorem OpA.mul {a b : Int} {Q : WV → Sg → Mu → Prop} (hm : IntMulOk a b) (h : Q (.val (.int (a * b))) σ μ) : OpA C L (binaryOp .Mult) (.val (.int a)) (.val (.int b)) σ μ Q :=
  OpA.int (fun _ _ _ _ _ _ _ hk => mul_int hk hm) h
theorem OpA.mod {a b : Int} {Q : WV → Sg → Mu → Prop} (hb : b ≠ 0) (h : Q (.val (.int (a.fmod b))) σ μ) : OpA C L (binaryOp .Mod) (.val (.int a)) (.val (.int b)) σ μ Q :=
  OpA.int (fun _ _ _ _ _ _ _ hk => PyProof.Rows.mod_int hb hk) h
theorem Room.pylong {k : Nat} {A : Around} (hr : Room k A) {s : Shared} (hk : ∀ b o, C.h₀.get? b = some o → s.heap.get? b = some o) : PylongRoom (model C.p C.w) A s := by
  obtain ⟨hA, hd, hu, e, l, hf, h1, h2, h3, h4⟩ := hr
  exact PylongRoom.of (C.lim.keeps hk) (by show A.depth + 100 < 1000; omega) (SeerAt.of (C.seer.keeps hk) C.tree hf h1 h2 h3 h4)
theorem OpA.fdiv {a b : Int} {Q : WV → Sg → Mu → Prop} (hb : b ≠ 0) (h : Q (.val (.int (a.fdiv b))) σ μ) : OpA C L (binaryOp .FloorDiv) (.val (.int a)) (.val (.int b)) σ μ Q :=
  OpA.int (fun _ _ _ _ _ hr hs hk => floordiv_int hb hk (.inr (hr.pylong hs))) h
theorem OpA.pow {a b : Int} {Q : WV → Sg → Mu → Prop} (hb : 0 ≤ b) (hz : (Builtin.Int.intBits a : Int) * b ≤ 2 ^ 27) (h : Q (.val (.int (a ^ b.toNat))) σ μ) : OpA C L (binaryOp .Pow) (.val (.int a)) (.val (.int b)) σ μ Q :=
  OpA.int (fun _ _ _ _ _ _ _ hk => pow_int hb hz hk) h
theorem OpA.iadd {a b : Int} {Q : WV → Sg → Mu → Prop} (h : Q (.val (.int (a + b))) σ μ) : OpA C L (inplaceOp .Add) (.val (.int a)) (.val (.int b)) σ μ Q :=
  OpA.int (fun _ _ _ _ _ _ _ hk => PyProof.Rows.iadd_int hk) h
theorem OpA.isub {a b : Int} {Q : WV → Sg → Mu → Prop} (h : Q (.val (.int (a - b))) σ μ) : OpA C L (inplaceOp .Sub) (.val (.int a)) (.val (.int b)) σ μ Q :=
  OpA.int (fun _ _ _ _ _ _ _ hk => PyProof.Rows.isub_int hk) h
theorem Op1.neg {a : Int} {Q : WV → Sg → Mu → Prop} (h : Q (.val (.int (-a))) σ μ) : Op1 C L (unaryOp .USub) (.val (.int a)) σ μ Q :=
  fun V A s₀ B F s hr hR h1 => by
    obtain ⟨t, rfl⟩ := DF.int_inv h1
    exact neg_int ⟨F, _, σ, μ, Nx.refl B F, hR.tok _, WOk.v (.int _ _), h⟩

theorem OpA.icmp {f : Value → Value → Sem Value} {a b : Int} {r : Bool} {Q : WV → Sg → Mu → Prop}
    (hf : ∀ A t u (s : Shared) (K : Value → Shared → Prop), K (.bool r) s → wpAny (model C.p C.w) A (f (.int a t) (.int b u)) K (fun _ _ => False) s) (h : Q (.val (.bool r)) σ μ) : OpA C L f (.val (.int a)) (.val (.int b)) σ μ Q :=
  fun V1 V2 A s₀ B F s hr hR ⟨h1, h2⟩ => by
    obtain ⟨t, rfl⟩ := DF.int_inv h1
    obtain ⟨u, rfl⟩ := DF.int_inv h2
    exact hf A t u s _ ⟨F, _, σ, μ, Nx.refl B F, hR, WOk.v (.bool _), h⟩
theorem OpA.lt {a b : Int} {Q : WV → Sg → Mu → Prop} (h : Q (.val (.bool (decide (a < b)))) σ μ) : OpA C L (compareOp .Lt) (.val (.int a)) (.val (.int b)) σ μ Q := OpA.icmp (fun _ _ _ _ _ hk => lt_int hk) h
theorem OpA.gt {a b : Int} {Q : WV → Sg → Mu → Prop} (h : Q (.val (.bool (decide (b < a)))) σ μ) : OpA C L (compareOp .Gt) (.val (.int a)) (.val (.int b)) σ μ Q := OpA.icmp (fun _ _ _ _ _ hk => gt_int hk) h
theorem OpA.le {a b : Int} {Q : WV → Sg → Mu → Prop} (h : Q (.val (.bool (decide (a ≤ b)))) σ μ) : OpA C L (compareOp .LtE) (.val (.int a)) (.val (.int b)) σ μ Q := OpA.icmp (fun _ _ _ _ _ hk => le_int hk) h
theorem OpA.ge {a b : Int} {Q : WV → Sg → Mu → Prop} (h : Q (.val (.bool (decide (b ≤ a)))) σ μ) : OpA C L (compareOp .GtE) (.val (.int a)) (.val (.int b)) σ μ Q := OpA.icmp (fun _ _ _ _ _ hk => ge_int hk) h

/-! ### equality of data -/
theorem OpA.eq {d1 d2 : PyData} {Q : WV → Sg → Mu → Prop} (hd : min d1.depth d2.depth ≤ 40) (h : Q (.val (.bool (PyData.eqv d1 d2))) σ μ) : OpA C L (compareOp .Eq) (.val d1) (.val d2) σ μ Q :=
  fun V1 V2 A s₀ B F s hr hR ⟨h1, h2⟩ => by
    obtain ⟨as, r1⟩ := DF.reads hR.keepF h1
    obtain ⟨bs, r2⟩ := DF.reads hR.keepF h2
    obtain ⟨_, _, hu, _⟩ := hr
    exact SeqAt.compareEq_reads r1 r2 (DF.canLay h1) (DF.canLay h2) (by show A.units + min d1.depth d2.depth < 9900; omega) ⟨F, _, σ, μ, Nx.refl B F, hR, WOk.v (.bool _), h⟩
theorem OpA.ne {d1 d2 : PyData} {Q : WV → Sg → Mu → Prop} (hd : min d1.depth d2.depth ≤ 40) (h : Q (.val (.bool (!PyData.eqv d1 d2))) σ μ) : OpA C L (compareOp .NotEq) (.val d1) (.val d2) σ μ Q :=
  fun V1 V2 A s₀ B F s hr hR ⟨h1, h2⟩ => by
    obtain ⟨as, r1⟩ := DF.reads hR.keepF h1
    obtain ⟨bs, r2⟩ := DF.reads hR.keepF h2
    obtain ⟨_, _, hu, _⟩ := hr
    exact SeqAt.compareNe_reads r1 r2 (DF.canLay h1) (DF.canLay h2) (by show A.units + min d1.depth d2.depth < 9900; omega) ⟨F, _, σ, μ, Nx.refl B F, hR, WOk.v (.bool _), h⟩
theorem OpA.inn {d : PyData} {xs : List PyData} {Q : WV → Sg → Mu → Prop} (hd : d.depth ≤ 40) (h : Q (.val (.bool (xs.any fun y => PyData.eqv y d))) σ μ) : OpA C L (compareOp .In) (.val d) (.val (.list xs)) σ μ Q :=
  fun V1 V2 A s₀ B F s hr hR ⟨h1, h2⟩ => by
    obtain ⟨as, r1⟩ := DF.reads hR.keepF h1
    obtain ⟨bs, r2⟩ := DF.reads hR.keepF h2
    obtain ⟨_, _, hu, _⟩ := hr
    have hc : PyData.canLayAll0 xs = true := by simpa [PyData.canLay0] using DF.canLay h2
    exact PySem.SeqAt.in_list_reads r2 r1 hc (DF.canLay h1) (by show A.units + 1 + min (PyData.depthAll xs) d.depth < 9900; omega) ⟨F, _, σ, μ, Nx.refl B F, hR, WOk.v (.bool _), h⟩

/-! ### lists: +, * -/
theorem fresh_list {A : Around} {s₀ : Shared} {B F : Fz} {s : Shared} (hR : Rel C.h₀ s₀ B F L.nm L.env σ μ s) {vs : Array Value} {ds : List PyData} (n : Nat) (hd : DFs F vs.toList ds) {Q : WV → Sg → Mu → Prop} (tk : Nat)
    (h : ∀ l, Q (.adr l) σ ((l, ds) :: μ)) :
    Pst C L s₀ B F WOk Q (.ref s.heap.objs.size) { s with heap := s.heap.push { cls := .type "list", data := .seq vs n }, toks := tk } :=
  ⟨F, .adr s.heap.objs.size, σ, _, Nx.refl B F, push_list hR n hd tk, rfl, h _⟩

theorem OpA.addL {w1 w2 : WV} {xs ys : List PyData} {Q : WV → Sg → Mu → Prop} (h1 : LL μ w1 xs) (h2 : LL μ w2 ys) (hz : xs.length + ys.length ≤ sizeLine) (h : ∀ l, Q (.adr l) σ ((l, xs ++ ys) :: μ)) :
    OpA C L (binaryOp .Add) w1 w2 σ μ Q := fun V1 V2 A s₀ B F s hr hR ⟨o1, o2⟩ => by
  obtain ⟨a, vs, rfl, hl, hD⟩ := h1.at hR o1
  obtain ⟨b, us, rfl, hl2, hD2⟩ := h2.at hR o2
  obtain ⟨⟨cls, dd, data, sl⟩, ho, hc, n, hd⟩ := id hl
  obtain ⟨⟨cls2, dd2, data2, sl2⟩, ho2, hc2, n2, hd2⟩ := id hl2
  simp only at hc hd hc2 hd2
  subst hc hd hc2 hd2
  refine concat_meets ⟨_, ho, rfl⟩ ⟨_, ho2, rfl⟩ noFill_list_add seq_list_add PySem.F.slot_list_add PySem.F.entry_list_add (PySem.F.args_list_add_2 _ _) (list_addW a b vs us n n2 dd dd2 sl sl2 ?_) ⟨ho, ho2, ?_⟩
  · have e1 := hD.length
    have e2 := hD2.length
    simp only [Array.length_toList] at e1 e2
    omega
  · exact fresh_list (A := A) hR 0 (by simpa using hD.append hD2) s.toks h

theorem foldl_rep (items : Array Value) (n : Nat) : (List.foldl (fun x1 x2 => x1 ++ x2) #[] (List.replicate (if items.isEmpty = true then 0 else n) items)).toList = (List.replicate n items.toList).flatten := by
  have key : ∀ (k : Nat) (acc : Array Value), (List.foldl (fun x1 x2 => x1 ++ x2) acc (List.replicate k items)).toList = acc.toList ++ (List.replicate k items.toList).flatten := by
    intro k
    induction k with
    | zero => intro acc; simp
    | succ k ih => intro acc; simp [List.replicate_succ, ih]
  rw [key]
  by_cases he : items.isEmpty = true
  · have : items = #[] := by simpa using he
    subst this
    simp
  · simp [he]

theorem OpA.mulL {w : WV} {xs : List PyData} {n : Int} {Q : WV → Sg → Mu → Prop} (h1 : LL μ w xs) (hlo : -(2 ^ 63 : Int) ≤ n) (hhi : n < 2 ^ 63) (hz : xs.length * n.toNat ≤ 2 ^ 24) (h : ∀ l, Q (.adr l) σ ((l, (List.replicate n.toNat xs).flatten) :: μ)) :
    OpA C L (binaryOp .Mult) w (.val (.int n)) σ μ Q := fun V1 V2 A s₀ B F s hr hR ⟨o1, o2⟩ => by
  obtain ⟨a, vs, rfl, hl, hD⟩ := h1.at hR o1
  obtain ⟨u, rfl⟩ := DF.int_inv o2
  obtain ⟨⟨cls, dd, data, sl⟩, ho, hc, k, hd⟩ := id hl
  simp only at hc hd
  subst hc hd
  have e1 := hD.length
  simp only [Array.length_toList] at e1
  rw [← e1] at hz
  refine wpAny_binaryOp_repeat_ref (T := "list") (U := "int") (by decide) ⟨_, ho, rfl⟩ (fun s' => typeIs_int s' n u) noFill_list_mul PySem.F.fills_int_mul PySem.F.slot_int_rmul repeat_list PySem.F.slot_int_index.lookup
    (call_meets PySem.F.slot_int_rmul (typeIs_int s n u) PySem.F.entry_int_rmul (PySem.F.args_int_rmul_2 _ _) (lm_int_rmul_list_any n u a vs k dd sl)
      ⟨ho, rfl, ⟨_, ho, rfl⟩, call_meets PySem.F.slot_list_mul ⟨_, ho, rfl⟩ PySem.F.entry_list_mul (PySem.F.args_list_mul_2 _ _)
        (lm_list_mul_any a vs k dd sl n u (by simp [Builtin.List.listFitsIndex]; omega) (by omega) (by simp [Builtin.List.listTooLong, sizeLine]; omega)) ⟨ho, ?_⟩⟩)
  exact fresh_list (A := A) hR 0 (by rw [foldl_rep]; exact hD.replicate _) s.toks h

/-! ### items and slices -/
theorem EvA.sub {e1 e2 : Expr} {pos : Pos} {Q : WV → Sg → Mu → Prop}
    (h : EvA C L e1 σ μ (KArg2 C L e2 (subscriptTail e1 e2) Q)) : EvA C L (.Subscript e1 e2 pos) σ μ Q :=
  fun A s₀ B F s hr hR _ => Subscript_ (wp_then h hr hR trivial fun V1 s1 F1 w1 σ1 μ1 n1 R1 o1 q1 => wp_then q1 hr R1 trivial fun V2 s2 F2 w2 σ2 μ2 n2 R2 o2 q2 =>
    wp_nx (n1.trans n2) (q2 V1 V2 A s₀ B F2 s2 hr R2 ⟨o1.mono n2.1, o2⟩))

theorem seqIndex_lt {k : Int} {n j : Nat} (h : seqIndex? k n = some j) : j < n ∧ (0 ≤ k → k.toNat = j ∧ k < n) ∧ (k < 0 → (k + n).toNat = j ∧ -(n : Int) ≤ k) := by
  unfold seqIndex? at h
  dsimp only at h
  by_cases hk : k < 0
  · rw [if_pos hk] at h
    by_cases hc : (decide (0 ≤ k + (n : Int)) && decide (k + (n : Int) < n)) = true
    · rw [if_pos hc] at h
      have e := Option.some.inj h
      simp only [Bool.and_eq_true, decide_eq_true_eq] at hc
      omega
    · rw [if_neg hc] at h; cases h
  · rw [if_neg hk] at h
    by_cases hc : (decide (0 ≤ k) && decide (k < n)) = true
    · rw [if_pos hc] at h
      have e := Option.some.inj h
      simp only [Bool.and_eq_true, decide_eq_true_eq] at hc
      omega
    · rw [if_neg hc] at h; cases h
theorem seqIndex_nat {i n : Nat} (h : i < n) : seqIndex? (i : Int) n = some i := by
  unfold seqIndex?
  have h1 : ¬ ((i : Int) < 0) := by omega
  simp only [h1, if_false]
  simp; omega

theorem SubA.tup {e1 e2 : Expr} {xs : List PyData} {k : Int} {j : Nat} {d : PyData} {Q : WV → Sg → Mu → Prop} (hn : (xs.length : Int) < 2 ^ 62) (hj : seqIndex? k xs.length = some j) (hx : xs[j]? = some d) (h : Q (.val d) σ μ)
    (hs : ∀ t k u, subscripted e2 false (.ref t) (.int k u) = operate [.ref t, .int k u] (getItem (.ref t) (.int k u)) := by intro _ _ _; with_unfolding_all rfl) :
    OpA C L (subscriptTail e1 e2) (.val (.tuple xs)) (.val (.int k)) σ μ Q := fun V1 V2 A s₀ B F s hr hR ⟨o1, o2⟩ => by
  obtain ⟨a, o, vs, n, rfl, ho, hc, hd, hD⟩ := DF.tuple_inv o1
  obtain ⟨u, rfl⟩ := DF.int_inv o2
  obtain ⟨v, hv, hdv⟩ := hD.get hx
  have e1 := hD.length
  have hi := seqIndex_lt hj
  refine item_tupleT (l := vs.toList) ⟨o, hR.keepF _ _ ho, hc, n, by simpa using hd⟩ ?_ ?_ (by rw [e1]; exact hj) hv ⟨F, _, σ, μ, Nx.refl B F, hR, WOk.v hdv, h⟩ (hs _ _ _)
  · rcases Int.lt_or_le k 0 with q | q
    · have := (hi.2.2 q).2; omega
    · omega
  · rcases Int.lt_or_le k 0 with q | q
    · omega
    · have := (hi.2.1 q).2; omega

theorem SubA.lst {e1 e2 : Expr} {w : WV} {xs : List PyData} {k : Int} {j : Nat} {d : PyData} {Q : WV → Sg → Mu → Prop} (hl : LL μ w xs) (hn : (xs.length : Int) < 2 ^ 62) (hj : seqIndex? k xs.length = some j) (hx : xs[j]? = some d) (h : Q (.val d) σ μ)
    (hs : ∀ t k u, subscripted e2 false (.ref t) (.int k u) = operate [.ref t, .int k u] (getItem (.ref t) (.int k u)) := by intro _ _ _; with_unfolding_all rfl) :
    OpA C L (subscriptTail e1 e2) w (.val (.int k)) σ μ Q := fun V1 V2 A s₀ B F s hr hR ⟨o1, o2⟩ => by
  obtain ⟨a, vs, rfl, hL, hD⟩ := hl.at hR o1
  obtain ⟨u, rfl⟩ := DF.int_inv o2
  obtain ⟨v, hv, hdv⟩ := hD.get hx
  have e1 := hD.length
  simp only [Array.length_toList] at e1
  have hi := seqIndex_lt hj
  have fin : Pst C L s₀ B F WOk Q v s := ⟨F, _, σ, μ, Nx.refl B F, hR, WOk.v hdv, h⟩
  refine tail_any hL.typeIs slot_list_getitem.lookup ?_ (hs _ _ _)
  rcases Int.lt_or_le k 0 with q | q
  · have hq := hi.2.2 q
    refine wpAny_getItem_list_neg hL q (by rw [e1]; exact hq.2) (by have := hq.2; omega) ?_ fin
    rw [e1, hq.1]; simpa using hv
  · have hq := hi.2.1 q
    refine wpAny_getItem_list hL q (by omega) ?_ fin
    rw [hq.1]; simpa using hv

noncomputable def pick (xs : List PyData) (lo hi : Option Int) : List PyData := (xs.drop (kms_lo lo xs.length)).take (kms_hi hi xs.length - kms_lo lo xs.length)
theorem pick_to {xs : List PyData} (n : Nat) : pick xs none (some (n : Int)) = xs.take n := by
  simp only [pick, kms_lo, kms_hi, List.drop_zero, Nat.sub_zero]
  rw [if_neg (by omega), Int.toNat_natCast]
  rcases Nat.le_total n xs.length with h | h
  · rw [Nat.min_eq_left h]
  · rw [Nat.min_eq_right h, List.take_of_length_le (Nat.le_refl _), List.take_of_length_le h]
theorem pick_from {xs : List PyData} (n : Nat) : pick xs (some (n : Int)) none = xs.drop n := by
  simp only [pick, kms_lo, kms_hi]
  rw [if_neg (by omega), Int.toNat_natCast]
  rcases Nat.le_total n xs.length with h | h
  · rw [Nat.min_eq_left h, List.take_of_length_le (by simp)]
  · rw [Nat.min_eq_right h, List.drop_of_length_le h]; simp
theorem pick_neg1 {xs : List PyData} : pick xs none (some (-1)) = xs.dropLast := by
  simp only [pick, kms_lo, kms_hi, List.drop_zero, Nat.sub_zero]
  rw [if_pos (by omega)]
  rw [List.dropLast_eq_take]; rfl

/-- a bound of a slice -/
noncomputable abbrev PtA (C : Cx) (L : Lx) (e : Option Expr) (σ : Sg) (μ : Mu) (Q : Option Int → Sg → Mu → Prop) : Prop := JdW C L (fun _ => True) (evalPart e L.env) (fun _ V k => IsPart V k) σ μ Q
inductive KInt (Q : Option Int → Sg → Mu → Prop) (w : WV) (σ1 : Sg) (μ1 : Mu) : Prop
  | mk (k : Int) (e : w = .val (.int k)) (h : Q (some k) σ1 μ1)
inductive KSl3 (w : WV) (a : Option Int) (Q : WV → Sg → Mu → Prop) (b : Option Int) (σ3 : Sg) (μ3 : Mu) : Prop
  | mk (xs : List PyData) (e : LL μ3 w xs) (z : xs.length ≤ sizeLine) (h : ∀ l, Q (.adr l) σ3 ((l, pick xs a b) :: μ3))
noncomputable abbrev KSl2 (C : Cx) (L : Lx) (up : Option Expr) (w : WV) (Q : WV → Sg → Mu → Prop) : Option Int → Sg → Mu → Prop := fun a σ2 μ2 => PtA C L up σ2 μ2 (KSl3 w a Q)
noncomputable abbrev KSl (C : Cx) (L : Lx) (lo up : Option Expr) (Q : WV → Sg → Mu → Prop) : WV → Sg → Mu → Prop := fun w σ1 μ1 => PtA C L lo σ1 μ1 (KSl2 C L up w Q)
theorem PtA.no {Q : Option Int → Sg → Mu → Prop} (h : Q none σ μ) : PtA C L none σ μ Q := fun A s₀ B F s hr hR _ => by
  rw [evalPart_none]; exact wpAny_pure ⟨F, _, σ, μ, Nx.refl B F, hR, .none, h⟩
theorem PtA.yes {e : Expr} {Q : Option Int → Sg → Mu → Prop} (h : EvA C L e σ μ (KInt Q)) : PtA C L (some e) σ μ Q := fun A s₀ B F s hr hR _ => by
  rw [evalPart_some]
  exact wp_then h hr hR trivial fun V1 s1 F1 w1 σ1 μ1 n1 R1 o1 q1 => by
    obtain ⟨k, rfl, hq⟩ := q1
    obtain ⟨t, rfl⟩ := DF.int_inv o1
    exact ⟨F1, _, σ1, μ1, n1, R1, .int _ _, hq⟩

theorem EvA.slice {e : Expr} {lo up : Option Expr} {p pos : Pos} {Q : WV → Sg → Mu → Prop}
    (h : EvA C L e σ μ (KSl C L lo up Q))
    (ht : ∀ o r, letTemporaryGo e o r = pure () := by intro _ _; rfl) : EvA C L (.Subscript e (.Slice lo up none p) pos) σ μ Q :=
  fun A s₀ B F s hr hR _ => wpAny_Subscript_list_slice (wp_then h hr hR trivial fun V1 s1 F1 w1 σ1 μ1 n1 R1 o1 q1 => wp_then q1 hr R1 trivial fun V2 s2 F2 a σ2 μ2 n2 R2 o2 q2 =>
    wp_then q2 hr R2 trivial fun V3 s3 F3 b σ3 μ3 n3 R3 o3 q3 => by
      obtain ⟨xs, hl, hsz, hq⟩ := q3
      obtain ⟨l, vs, rfl, hL, hD⟩ := hl.at R3 (o1.mono (n2.trans n3).1)
      have e1 := hD.length
      simp only [Array.length_toList] at e1
      refine ⟨l, vs, a, b, rfl, hL, by rw [e1]; exact hsz, o2, o3, ?_⟩
      have R4 := push_old R3 { cls := .type "slice", data := .fields #[V2, V3, .none] } s3.toks
      have hD' : DFs F3 (slicePick vs a b none).toList (pick xs a b) := by
        rw [kms_pick_eq]
        simp only [kms_pick, pick, Array.length_toList, e1]
        exact (hD.drop _).take _
      have hsz1 : (s3.heap.push { cls := .type "slice", data := .fields #[V2, V3, .none] }).objs.size = s3.heap.objs.size + 1 := Heap.size_push ..
      have fin := fresh_list (A := A) R4 0 hD' s3.toks hq
      dsimp only at fin
      rw [hsz1] at fin
      obtain ⟨F', b', σ', μ', n', r', w', q'⟩ := fin
      exact ⟨F', b', σ', μ', (n1.trans (n2.trans n3)).trans n', r', w', q'⟩) ht

/-! ### calls -/
theorem EvA.callB {x : Str} {np pos : Pos} {id : String} {e : Expr} {es : List Expr} {Q : WV → Sg → Mu → Prop} (i : Nat) (hi : L.nm[i]? = some (x, .globalImplicit)) (hm : C.mg x = none) (hv : C.mb x = some (.builtin id))
    (h : ArA C L pos (e :: es) σ μ (KCl C L (.builtin id) Q))
    (he : starEach (e :: es) L.env = (false, eval e L.env) :: starEach es L.env := by rfl) (hp : (backTo pos (starEach es L.env)).any (·.1) = false := by rfl) :
    EvA C L (.Call (.Name x np) (e :: es) [] pos) σ μ Q := fun A s₀ B F s hr hR _ =>
  Call_ (wp_builtin hR hi hm hv (callWith_builtin1 (wp_then h hr hR trivial fun Vs s1 F1 ws σ1 μ1 n1 R1 o1 q1 => wp_nx n1 (q1 Vs A s₀ B F1 s1 hr R1 o1)) he hp))
theorem EvA.callT {x : Str} {np pos : Pos} {T : String} {e : Expr} {es : List Expr} {Q : WV → Sg → Mu → Prop} (i : Nat) (hi : L.nm[i]? = some (x, .globalImplicit)) (hm : C.mg x = none) (hv : C.mb x = some (.type T))
    (h : ArA C L pos (e :: es) σ μ (KCl C L (.type T) Q))
    (he : starEach (e :: es) L.env = (false, eval e L.env) :: starEach es L.env := by rfl) (hp : (backTo pos (starEach es L.env)).any (·.1) = false := by rfl) :
    EvA C L (.Call (.Name x np) (e :: es) [] pos) σ μ Q := fun A s₀ B F s hr hR _ =>
  Call_ (wp_builtin hR hi hm hv (callWith_type1 (wp_then h hr hR trivial fun Vs s1 F1 ws σ1 μ1 n1 R1 o1 q1 => wp_nx n1 (q1 Vs A s₀ B F1 s1 hr R1 o1)) he hp))
theorem EvA.callD {x : Str} {np pos : Pos} {a : Addr} {e : Expr} {es : List Expr} {Q : WV → Sg → Mu → Prop} (i : Nat) (hi : L.nm[i]? = some (x, .globalImplicit)) (hm : C.mg x = some (.ref a)) (hf : ∃ o fd, C.h₀.get? a = some o ∧ o.data = .func fd)
    (h : ArA C L pos (e :: es) σ μ (KCl C L (.ref a) Q))
    (he : starEach (e :: es) L.env = (false, eval e L.env) :: starEach es L.env := by rfl) :
    EvA C L (.Call (.Name x np) (e :: es) [] pos) σ μ Q := fun A s₀ B F s hr hR _ => by
  obtain ⟨o, fd, ho, hd⟩ := hf
  exact Call_ (wp_global hR hi hm (callWith_def hd (wp_then h hr hR trivial fun Vs s1 F1 ws σ1 μ1 n1 R1 o1 q1 => ⟨keep0 R1 _ _ ho, wp_nx n1 (q1 Vs A s₀ B F1 s1 hr R1 o1)⟩) he))

theorem ClA.len_list {w : WV} {xs : List PyData} {Q : WV → Sg → Mu → Prop} (hl : LL μ w xs) (hn : (xs.length : Int) < 2 ^ 62) (h : Q (.val (.int xs.length)) σ μ) : ClA C L (.builtin "len") [w] σ μ Q := fun vs A s₀ B F s hr hR o => by
  cases o with | cons o r => cases r with | nil =>
  obtain ⟨a, vs, rfl, hL, hD⟩ := hl.at hR o
  have e1 := hD.length
  simp only [Array.length_toList] at e1
  refine PyProof.Rows.len_list hL (by rw [e1]; omega) ?_
  rw [e1]
  exact ⟨F, _, σ, μ, Nx.refl B F, hR.tok _, WOk.v (.int _ _), h⟩

theorem ClA.abs {a : Int} {Q : WV → Sg → Mu → Prop} (h : Q (.val (.int (if a < 0 then -a else a))) σ μ) : ClA C L (.builtin "abs") [.val (.int a)] σ μ Q := fun vs A s₀ B F s hr hR o => by
  cases o with | cons o r => cases r with | nil =>
  obtain ⟨t, rfl⟩ := DF.int_inv o
  exact call_abs_int fun u tk => ⟨F, _, σ, μ, Nx.refl B F, hR.tok _, WOk.v (.int _ _), h⟩
theorem ClA.int {a : Int} {Q : WV → Sg → Mu → Prop} (h : Q (.val (.int a)) σ μ) : ClA C L (.type "int") [.val (.int a)] σ μ Q := fun vs A s₀ B F s hr hR o => by
  cases o with | cons o r => cases r with | nil =>
  obtain ⟨t, rfl⟩ := DF.int_inv o
  exact PySem.call_int_int ⟨F, _, σ, μ, Nx.refl B F, hR, WOk.v (.int _ _), h⟩
theorem ClA.list {w : WV} {xs : List PyData} {Q : WV → Sg → Mu → Prop} (hl : LL μ w xs) (hz : xs.length ≤ sizeLine) (h : ∀ l, Q (.adr l) σ ((l, xs) :: μ)) : ClA C L (.type "list") [w] σ μ Q := fun vs A s₀ B F s hr hR o => by
  cases o with | cons o r => cases r with | nil =>
  obtain ⟨a, vs, rfl, ⟨oa, ho, hc, n, hd⟩, hD⟩ := hl.at hR o
  have e1 := hD.length
  simp only [Array.length_toList] at e1
  refine call_list_seq a (.inl rfl) ho hc hd (fun h' c' hk hnew => ?_) (by rw [e1]; exact hz)
  have R1 := (hR.grow (F' := F) (h' := h') (tk := s.toks) hk (Fz.le.refl F) (fun b o e => hk b o (hR.keepF b o e)) (fun _ _ x => .inl x)).1
  obtain ⟨f1, f2, f3⟩ := fresh_off hR (Nat.le_refl s.heap.objs.size)
  exact ⟨F, .adr s.heap.objs.size, σ, _, Nx.refl B F, R1.newList ⟨_, hnew, c', rfl⟩ hD f1 f2 f3, rfl, h _⟩
end
end Mine
end
section
open PySem PySem.W PySem.Calls PyProof.Rows
set_option linter.unusedVariables false
namespace Mine

inductive AF where
  | next | brk | cont
  | ret (w : WV)
noncomputable def FlOk (F : Fz) : Flow → AF → Prop
  | .next, .next => True
  | .brk, .brk => True
  | .cont, .cont => True
  | .ret V, .ret w => WOk F V w
  | _, _ => False

noncomputable abbrev ExA (C : Cx) (L : Lx) (ss : List Stmt) (σ : Sg) (μ : Mu) (Q : AF → Sg → Mu → Prop) : Prop := JdW C L (fun _ => True) (execs ss L.env) FlOk σ μ Q
noncomputable abbrev StA (C : Cx) (L : Lx) (st : Stmt) (σ : Sg) (μ : Mu) (Q : AF → Sg → Mu → Prop) : Prop := JdW C L (fun _ => True) (exec st L.env) FlOk σ μ Q
/-- a value is bound to a target -/
noncomputable def AgA (C : Cx) (L : Lx) (t : Expr) (w : WV) (σ : Sg) (μ : Mu) (Q : Sg → Mu → Prop) : Prop :=
  ∀ V, JdW C L (fun F => WOk F V w) (assign t L.env V) (fun _ _ (_ : Unit) => True) σ μ (fun _ => Q)

noncomputable abbrev KSeq (C : Cx) (L : Lx) (rest : List Stmt) (Q : AF → Sg → Mu → Prop) : AF → Sg → Mu → Prop := fun f σ1 μ1 => match f with | .next => ExA C L rest σ1 μ1 Q | f => Q f σ1 μ1
noncomputable abbrev KSeqN (C : Cx) (L : Lx) (rest : List Stmt) (Q : AF → Sg → Mu → Prop) : AF → Sg → Mu → Prop := fun f σ1 μ1 => f = .next ∧ ExA C L rest σ1 μ1 Q
noncomputable abbrev KAg (C : Cx) (L : Lx) (t : Expr) (w : WV) (Q : Sg → Mu → Prop) : Sg → Mu → Prop := fun σ1 μ1 => AgA C L t w σ1 μ1 Q
inductive KPut2 (d : PyData) (w1 : WV) (Q : Sg → Mu → Prop) (w2 : WV) (σ2 : Sg) (μ2 : Mu) : Prop
  | mk (a : Addr) (pre post : Mu) (xs : List PyData) (k : Int) (j : Nat) (e1 : w1 = .adr a) (em : μ2 = pre ++ (a, xs) :: post) (e2 : w2 = .val (.int k)) (h0 : 0 ≤ k) (hn : (xs.length : Int) < 2 ^ 62) (hj : seqIndex? k xs.length = some j) (h : Q σ2 (pre ++ (a, xs.set j d) :: post))
noncomputable abbrev KPut (C : Cx) (L : Lx) (i : Expr) (d : PyData) (Q : Sg → Mu → Prop) : WV → Sg → Mu → Prop := fun w1 σ1 μ1 => EvA C L i σ1 μ1 (KPut2 d w1 Q)
inductive KPutS (C : Cx) (L : Lx) (o i : Expr) (Q : AF → Sg → Mu → Prop) (w : WV) (σ1 : Sg) (μ1 : Mu) : Prop
  | mk (d : PyData) (e : w = .val d) (h : EvA C L o σ1 μ1 (KPut C L i d (Q .next)))
noncomputable abbrev KSet (i : Nat) (Q : AF → Sg → Mu → Prop) : WV → Sg → Mu → Prop := fun w σ1 μ1 => Q .next (σ1.set i (some w)) μ1
noncomputable abbrev KAgT (C : Cx) (L : Lx) (t : Expr) (Q : AF → Sg → Mu → Prop) : WV → Sg → Mu → Prop := fun w σ1 μ1 => AgA C L t w σ1 μ1 (Q .next)
noncomputable abbrev KAug (C : Cx) (L : Lx) (op : Operator) (w : WV) (i : Nat) (Q : AF → Sg → Mu → Prop) : WV → Sg → Mu → Prop := fun w2 σ1 μ1 => OpA C L (inplaceOp op) w w2 σ1 μ1 (KSet i Q)
inductive KAugS4 (a : Addr) (xs : List PyData) (j : Nat) (Q : AF → Sg → Mu → Prop) (w4 : WV) (σ4 : Sg) (μ4 : Mu) : Prop
  | mk (pre post : Mu) (d' : PyData) (em : μ4 = pre ++ (a, xs) :: post) (e : w4 = .val d') (h : Q .next σ4 (pre ++ (a, xs.set j d') :: post))
noncomputable abbrev KAugS3 (C : Cx) (L : Lx) (op : Operator) (a : Addr) (xs : List PyData) (j : Nat) (d : PyData) (Q : AF → Sg → Mu → Prop) : WV → Sg → Mu → Prop := fun w3 σ3 μ3 => OpA C L (inplaceOp op) (.val d) w3 σ3 μ3 (KAugS4 a xs j Q)
inductive KAugS2 (C : Cx) (L : Lx) (e : Expr) (op : Operator) (w1 : WV) (Q : AF → Sg → Mu → Prop) (w2 : WV) (σ2 : Sg) (μ2 : Mu) : Prop
  | mk (a : Addr) (xs : List PyData) (k : Int) (j : Nat) (d : PyData) (e1 : w1 = .adr a) (em : (a, xs) ∈ μ2) (e2 : w2 = .val (.int k)) (h0 : 0 ≤ k) (hn : (xs.length : Int) < 2 ^ 62) (hj : seqIndex? k xs.length = some j) (hx : xs[j]? = some d) (h : EvA C L e σ2 μ2 (KAugS3 C L op a xs j d Q))
noncomputable abbrev KAugS (C : Cx) (L : Lx) (i e : Expr) (op : Operator) (Q : AF → Sg → Mu → Prop) : WV → Sg → Mu → Prop := fun w1 σ1 μ1 => EvA C L i σ1 μ1 (KAugS2 C L e op w1 Q)
noncomputable abbrev KRet (Q : AF → Sg → Mu → Prop) : WV → Sg → Mu → Prop := fun w σ1 μ1 => Q (.ret w) σ1 μ1
noncomputable abbrev KIte (C : Cx) (L : Lx) (b o : List Stmt) (Q : AF → Sg → Mu → Prop) : Bool → Sg → Mu → Prop := fun c σ1 μ1 => if c then ExA C L b σ1 μ1 Q else ExA C L o σ1 μ1 Q
noncomputable abbrev KExpr (Q : AF → Sg → Mu → Prop) : WV → Sg → Mu → Prop := fun w σ1 μ1 => w = .val .none ∧ Q .next σ1 μ1
noncomputable abbrev KTurn (J : Sg → Mu → Prop) (Q : AF → Sg → Mu → Prop) : AF → Sg → Mu → Prop := fun f σ μ => match f with | .next => J σ μ | .cont => J σ μ | .brk => Q .next σ μ | .ret w => Q (.ret w) σ μ
inductive JLess (I : Nat → Sg → Mu → Prop) (n : Nat) (σ : Sg) (μ : Mu) : Prop
  | mk (m : Nat) (lt : m < n) (h : I m σ μ)
noncomputable abbrev KWhile (C : Cx) (L : Lx) (b : List Stmt) (I : Nat → Sg → Mu → Prop) (n : Nat) (Q : AF → Sg → Mu → Prop) : Bool → Sg → Mu → Prop := fun c σ μ => if c then ExA C L b σ μ (KTurn (JLess I n) Q) else Q .next σ μ

section
variable {C : Cx} {L : Lx} {σ : Sg} {μ : Mu}

theorem ExA.nil {Q : AF → Sg → Mu → Prop} (h : Q .next σ μ) : ExA C L [] σ μ Q :=
  fun A s₀ B F s hr hR _ => wpAny_execs_nil ⟨F, .next, σ, μ, Nx.refl B F, hR, trivial, h⟩

theorem ExA.cons' {st : Stmt} {rest : List Stmt} {Q : AF → Sg → Mu → Prop}
    (h : StA C L st σ μ (KSeq C L rest Q)) : ExA C L (st :: rest) σ μ Q :=
  fun A s₀ B F s hr hR _ => wpAny_execs_cons (wp_then h hr hR trivial fun f s1 F1 f' σ1 μ1 n1 R1 o1 q1 => by
    cases f <;> cases f' <;> first
      | exact o1.elim
      | exact wp_nx n1 (q1 A s₀ B F1 s1 hr R1 trivial)
      | exact ⟨F1, _, σ1, μ1, n1, R1, o1, q1⟩)

/-- a statement that goes on -/
theorem ExA.cons {st : Stmt} {rest : List Stmt} {Q : AF → Sg → Mu → Prop}
    (h : StA C L st σ μ (KSeqN C L rest Q)) : ExA C L (st :: rest) σ μ Q :=
  ExA.cons' (h.mono fun f σ1 μ1 ⟨e, q⟩ => by subst e; exact q)

/-- ghost: a name's list is frozen -/
theorem JdW.frzV {α β : Type} {t : Sem α} {R : Fz → α → β → Prop} {Q : β → Sg → Mu → Prop} (i : Nat) {pre post : Mu} {a : Addr} {ds : List PyData} (hi : σ[i]? = some (some (.adr a)))
    (h : JdW C L (fun _ => True) t R (σ.set i (some (.val (.list ds)))) (pre ++ post) Q) : JdW C L (fun _ => True) t R σ (pre ++ (a, ds) :: post) Q :=
  fun A s₀ B F s hr hR _ => by
    obtain ⟨F', n', R', hd⟩ := hR.freeze
    exact wp_nx n' (h A s₀ B F' s hr (R'.slot hi hd) trivial)
/-- ghost: a list is forgotten -/
theorem JdW.drop {α β : Type} {P : Fz → Prop} {t : Sem α} {R : Fz → α → β → Prop} {Q : β → Sg → Mu → Prop} {μ' : Mu} (hs : List.Sublist μ' μ) (h : JdW C L P t R σ μ' Q) : JdW C L P t R σ μ Q :=
  fun A s₀ B F s hr hR hP => h A s₀ B F s hr (hR.weakMu hs) hP
/-- ghost: what is known of the names is weakened -/
noncomputable def Sub (σ' σ : Sg) : Prop := ∀ (i : Nat) (w : WV), σ'[i]? = some (some w) → σ[i]? = some (some w)
theorem Sub.refl (σ : Sg) : Sub σ σ := fun _ _ h => h
theorem Sub.trans {σ1 σ2 σ3 : Sg} (h : Sub σ1 σ2) (h' : Sub σ2 σ3) : Sub σ1 σ3 := fun i w x => h' i w (h i w x)
theorem Sub.set {σ' σ : Sg} {i : Nat} {x : Option WV} (h : Sub σ' σ) (hi : ∀ w, σ'[i]? ≠ some (some w)) : Sub σ' (σ.set i x) := fun j w hj => by
  by_cases e : j = i
  · subst e; exact absurd hj (hi w)
  · rw [List.getElem?_set_ne (fun q => e q.symm)]; exact h j w hj
theorem Rel.weak {s₀ : Shared} {B F : Fz} {nm : Nm} {env : Env} {s : Shared} {σ' : Sg} {h₀ : Heap} (R : Rel h₀ s₀ B F nm env σ μ s) (h : Sub σ' σ) : Rel h₀ s₀ B F nm env σ' μ s :=
  { R with vars := fun i x k w hx hw => R.vars i x k w hx (h i w hw) }
theorem JdW.weak {α β : Type} {P : Fz → Prop} {t : Sem α} {R : Fz → α → β → Prop} {Q : β → Sg → Mu → Prop} {σ' : Sg} (hs : Sub σ' σ) (h : JdW C L P t R σ' μ Q) : JdW C L P t R σ μ Q :=
  fun A s₀ B F s hr hR hP => h A s₀ B F s hr (hR.weak hs) hP

/-! ### targets -/
theorem wp_store {A : Around} {s₀ : Shared} {B F : Fz} {s : Shared} {V : Value} {w : WV} {x : Str} {k : NameKind} {i : Nat} {K : Unit → Shared → Prop} (hR : Rel C.h₀ s₀ B F L.nm L.env σ μ s) (hi : L.nm[i]? = some (x, k)) (hk : k = .local ∨ k = .cell) (hw : WOk F V w)
    (h : ∀ s', Rel C.h₀ s₀ B F L.nm L.env (σ.set i (some w)) μ s' → K () s') : wpAny (model C.p C.w) A (storeName L.env x V) K (fun _ _ => False) s := by
  rcases hk with rfl | rfl
  · obtain ⟨m, hm⟩ := hR.ns
    exact wpAny_storeName_local (L.ok.loc x (List.mem_of_getElem? hi)) hm (fun h' hn hs => h _ (hR.setLocal L.ok hi hw hm hs hn)) (by rw [L.ok.kind]; rfl)
  · obtain ⟨hk, hf, c, hc⟩ := L.ok.cel x (List.mem_of_getElem? hi)
    obtain ⟨v0, hc0⟩ := hR.cells x c hc
    exact wpAny_storeName_cell L.ok.kind hk hc hc0 (fun h' hn hs => h _ (hR.setCell (tk := s.toks) L.ok hi hw hc hs hn))

theorem AgA.name {x : Str} {pos : Pos} {k : NameKind} {w : WV} {Q : Sg → Mu → Prop} (i : Nat) (hi : L.nm[i]? = some (x, k)) (hk : k = .local ∨ k = .cell) (h : Q (σ.set i (some w)) μ) :
    AgA C L (.Name x pos) w σ μ Q := fun V A s₀ B F s hr hR hw =>
  wpAny_assign_Name (wp_store hR hi hk hw fun s' R' => ⟨F, (), _, μ, Nx.refl B F, R', trivial, h⟩)

noncomputable def split : WV → Option (WV × WV)
  | .val (.tuple [a, b]) => some (.val a, .val b)
  | .two a b => some (a, b)
  | _ => none
inductive KSet2 (i j : Nat) (Q : AF → Sg → Mu → Prop) (w : WV) (σ1 : Sg) (μ1 : Mu) : Prop
  | mk (w1 w2 : WV) (e : split w = some (w1, w2)) (h : Q .next ((σ1.set j (some w2)).set i (some w1)) μ1)
theorem split_at {F : Fz} {V : Value} {w w1 w2 : WV} (h : split w = some (w1, w2)) (hw : WOk F V w) : ∃ t o V1 V2 n, V = .ref t ∧ F t o ∧ o.cls = .type "tuple" ∧ o.data = .seq #[V1, V2] n ∧ WOk F V1 w1 ∧ WOk F V2 w2 := by
  unfold split at h
  split at h
  · cases h
    obtain ⟨t, o, vs, n, e, ho, hc, hd, hD⟩ := DF.tuple_inv hw
    obtain ⟨vs⟩ := vs
    cases hD with | cons a r => cases r with | cons b r => cases r with | nil => exact ⟨t, o, _, _, n, e, ho, hc, hd, a, b⟩
  · cases h; exact hw
  · cases h

theorem wp_unpack2 {A : Around} {s₀ : Shared} {B F : Fz} {s : Shared} {V : Value} {w w1 w2 : WV} {K : List Value → Shared → Prop} (hr : Room L.k A) (hR : Rel C.h₀ s₀ B F L.nm L.env σ μ s) (hs : split w = some (w1, w2)) (hw : WOk F V w)
    (h : ∀ s' V1 V2, Rel C.h₀ s₀ B F L.nm L.env σ μ s' → WOk F V1 w1 → WOk F V2 w2 → K [V1, V2] s') : wpAny (model C.p C.w) A (unpackItems V 2 none) K (fun _ _ => False) s := by
  obtain ⟨t, o, V1, V2, n, rfl, ho, hc, hd, o1, o2⟩ := split_at hs hw
  refine unpackItems_tuple (items := #[V1, V2]) hr.1 ⟨o, hR.keepF _ _ ho, hc, n, hd⟩ fun h' he => ?_
  have hk : ∀ b o, s.heap.get? b = some o → h'.get? b = some o := fun b o e => he b o (Nat.ne_of_lt (Heap.lt_size e)) e
  exact h _ V1 V2 (hR.grow (F' := F) (tk := s.toks) hk (Fz.le.refl F) (fun b o e => hk b o (hR.keepF b o e)) (fun _ _ x => .inl x)).1 o1 o2

theorem AgA.tup {t1 t2 : Expr} {k : Nat} {pos : Pos} {w w1 w2 : WV} {Q : Sg → Mu → Prop} (hs : split w = some (w1, w2))
    (h : AgA C L t1 w1 σ μ (KAg C L t2 w2 Q))
    (he : assignEach [t1, t2] L.env = [(false, assign t1 L.env), (false, assign t2 L.env)] := by rfl) : AgA C L (.Tuple [t1, t2] k pos) w σ μ Q :=
  fun V A s₀ B F s hr hR hw => by
    show wpAny _ A (do standAt pos; unpack V (assignEach [t1, t2] L.env)) _ _ s
    rw [he]
    refine wpAny_bind (wpAny_standAt ?_)
    show wpAny _ A (do assignInOrder [assign t1 L.env, assign t2 L.env] (← holding [V] (unpackItems V 2 none))) _ _ s
    refine wpAny_bind (wpAny_holding (wp_unpack2 hr hR hs hw fun s' V1 V2 R' o1 o2 => ?_))
    show wpAny _ A (do holding [V2] (assign t1 L.env V1); assignInOrder [assign t2 L.env] [V2]) _ _ s'
    refine wpAny_bind (wpAny_holding (wp_then (h V1) hr R' o1 fun _ s1 F1 _ σ1 μ1 n1 R1 _ q1 => ?_))
    show wpAny _ A (do holding [] (assign t2 L.env V2); assignInOrder [] []) _ _ s1
    refine wpAny_bind (wpAny_holding (wp_then (q1 V2) hr R1 (o2.mono n1.1) fun _ s2 F2 _ σ2 μ2 n2 R2 _ q2 => ?_))
    exact wpAny_pure ⟨F2, (), σ2, μ2, n1.trans n2, R2, trivial, q2⟩

theorem wp_setItem {A : Around} {s₀ : Shared} {B F : Fz} {s : Shared} {V1 V2 V3 : Value} {a : Addr} {pre post : Mu} {xs : List PyData} {k : Int} {j : Nat} {d : PyData} {K : Unit → Shared → Prop}
    (hR : Rel C.h₀ s₀ B F L.nm L.env σ (pre ++ (a, xs) :: post) s) (o1 : V1 = .ref a) (o2 : DF F V2 (.int k)) (o3 : DF F V3 d) (h0 : 0 ≤ k) (hn : (xs.length : Int) < 2 ^ 62) (hj : seqIndex? k xs.length = some j)
    (h : ∀ s', Rel C.h₀ s₀ B F L.nm L.env σ (pre ++ (a, xs.set j d) :: post) s' → K () s') : wpAny (model C.p C.w) A (setItem V1 V2 V3) K (fun _ _ => False) s := by
  subst o1
  obtain ⟨t, rfl⟩ := DF.int_inv o2
  obtain ⟨⟨vs, hl, hD⟩, _⟩ := hR.mu (a, xs) (List.mem_append_right _ (.head _))
  have e1 := hD.length
  simp only [Array.length_toList] at e1
  have hi := seqIndex_lt hj
  have hk := hi.2.1 h0
  obtain ⟨o, ho, n, rfl⟩ := hl
  refine ki_setAt ho h0 (by omega) (by rw [e1]; exact hk.2) (h _ (hR.setMu (vs' := vs.setIfInBounds j V3) (tk := s.toks) (Heap.SameBut.update ..) ⟨_, Heap.get?_update_self _ ho (by rfl), ?_⟩ ?_))
  · rw [hk.1]
    refine ⟨n, ?_⟩
    simp [Obj.mapSeq, PySem.W.listOf]
  · simpa using hD.set o3 j

/-- a place of a list of the ledger -/
theorem AgA.sub {o i : Expr} {pos : Pos} {d : PyData} {Q : Sg → Mu → Prop}
    (h : EvA C L o σ μ (KPut C L i d Q)) : AgA C L (.Subscript o i pos) (.val d) σ μ Q :=
  fun V A s₀ B F s hr hR hw => by
    rw [assign_Subscript]
    refine wpAny_bind (wpAny_holding (wp_then h hr hR trivial fun V1 s1 F1 w1 σ1 μ1 n1 R1 o1 q1 => ?_))
    refine wpAny_bind (wpAny_holding (wp_then q1 hr R1 trivial fun V2 s2 F2 w2 σ2 μ2 n2 R2 o2 q2 => ?_))
    obtain ⟨a, pre, post, xs, k, j, rfl, rfl, rfl, h0, hn, hj, hq⟩ := q2
    refine wpAny_bind (wpAny_standAt ?_)
    refine wpAny_bind (wpAny_holding (wp_setItem R2 o1 o2 (DF.mono (n1.trans n2).1 hw) h0 hn hj fun s' R' => ?_))
    exact wpAny_release ⟨F2, (), _, _, n1.trans n2, R', trivial, hq⟩

/-! ### statements -/
theorem StA.assignN {x : Str} {np pos : Pos} {e : Expr} {k : NameKind} {Q : AF → Sg → Mu → Prop} (i : Nat) (hi : L.nm[i]? = some (x, k)) (hk : k = .local ∨ k = .cell)
    (h : EvA C L e σ μ (KSet i Q)) (hs : swapsWith e (some (.Name x np)) pos.line L.env = pure false := by rfl) : StA C L (.Assign [.Name x np] e pos) σ μ Q :=
  fun A s₀ B F s hr hR _ => wpAny_Assign_Name (wp_then h hr hR trivial fun V1 s1 F1 w1 σ1 μ1 n1 R1 o1 q1 =>
    wp_store R1 hi hk o1 fun s' R' => ⟨F1, .next, _, μ1, n1, R', trivial, q1⟩) hs
theorem StA.assignS {o i : Expr} {np pos : Pos} {e : Expr} {Q : AF → Sg → Mu → Prop}
    (h : EvA C L e σ μ (KPutS C L o i Q))
    (hs : swapsWith e (some (.Subscript o i np)) pos.line L.env = pure false := by rfl) : StA C L (.Assign [.Subscript o i np] e pos) σ μ Q :=
  fun A s₀ B F s hr hR _ => wpAny_Assign_Subscript (wp_then h hr hR trivial fun V s0 F0 w0 σ0 μ0 n0 R0 o0 q0 => by
    obtain ⟨d, rfl, q0⟩ := q0
    exact wp_then q0 hr R0 trivial fun V1 s1 F1 w1 σ1 μ1 n1 R1 o1 q1 => wp_then q1 hr R1 trivial fun V2 s2 F2 w2 σ2 μ2 n2 R2 o2 q2 => by
      obtain ⟨a, pre, post, xs, k, j, rfl, rfl, rfl, h0, hn, hj, hq⟩ := q2
      exact wp_setItem R2 o1 o2 (DF.mono (n1.trans n2).1 o0) h0 hn hj fun s' R' => ⟨F2, .next, _, _, n0.trans (n1.trans n2), R', trivial, hq⟩) hs
theorem StA.assignT {es : List Expr} {k : Nat} {tp pos : Pos} {e : Expr} {Q : AF → Sg → Mu → Prop} (h : EvA C L e σ μ (KAgT C L (.Tuple es k tp) Q))
    (hs : swapsWithSole [.Tuple es k tp] e pos.line L.env = pure false := by rfl) (hw : swappedStores [.Tuple es k tp] e L.env = pure none := by rfl) : StA C L (.Assign [.Tuple es k tp] e pos) σ μ Q :=
  fun A s₀ B F s hr hR _ => Assign_Tuple (wp_then h hr hR trivial fun V1 s1 F1 w1 σ1 μ1 n1 R1 o1 q1 =>
    wp_then (q1 V1) hr R1 o1 fun _ s2 F2 _ σ2 μ2 n2 R2 _ q2 => ⟨F2, .next, σ2, μ2, n1.trans n2, R2, trivial, q2⟩) hs hw
theorem StA.assignW {x y : Str} {p1 p2 : Pos} {k : Nat} {tp pos : Pos} {e : Expr} {Q : AF → Sg → Mu → Prop} (i j : Nat) (hi : L.nm[i]? = some (x, .local)) (hj : L.nm[j]? = some (y, .local))
    (h : EvA C L e σ μ (KSet2 i j Q))
    (hw : swappedStores [.Tuple [.Name x p1, .Name y p2] k tp] e L.env = pure (some [x, y])) (hs : swapsWithSole [.Tuple [.Name x p1, .Name y p2] k tp] e pos.line L.env = pure false := by rfl) : StA C L (.Assign [.Tuple [.Name x p1, .Name y p2] k tp] e pos) σ μ Q :=
  fun A s₀ B F s hr hR _ => Assign_Tuple_swapped (names := [x, y]) (wp_then h hr hR trivial fun V s1 F1 w σ1 μ1 n1 R1 o1 q1 => by
    obtain ⟨w1, w2, hsp, hq⟩ := q1
    refine wp_unpack2 hr R1 hsp o1 fun s2 V1 V2 R2 o1 o2 => ?_
    show wpAny _ A (do holding [V1] (bindName L.env y V2); assignInOrder [fun v => bindName L.env x v] [V1]) _ _ s2
    refine wpAny_bind (wpAny_holding (bindName_ (wp_store R2 hj (.inl rfl) o2 fun s3 R3 => ?_)))
    show wpAny _ A (do holding [] (bindName L.env x V1); assignInOrder [] []) _ _ s3
    refine wpAny_bind (wpAny_holding (bindName_ (wp_store R3 hi (.inl rfl) o1 fun s4 R4 => ?_)))
    exact wpAny_pure ⟨F1, .next, _, μ1, n1, R4, trivial, hq⟩) hs hw
theorem StA.aug {x : Str} {np pos : Pos} {e : Expr} {op : Operator} {w : WV} {k : NameKind} {Q : AF → Sg → Mu → Prop} (i : Nat) (hi : L.nm[i]? = some (x, k)) (hk : k = .local ∨ k = .cell) (hw : σ[i]? = some (some w))
    (h : EvA C L e σ μ (KAug C L op w i Q)) : StA C L (.AugAssign (.Name x np) op e pos) σ μ Q :=
  fun A s₀ B F s hr hR _ => by
    obtain ⟨V, hV, hW⟩ := hR.vars i x k w hi hw
    refine wpAny_AugAssign_Name ?_
    have step : wpAny (model C.p C.w) A (eval e L.env) (fun v s₂ => wpAny (model C.p C.w) A (inplaceOp op V v) (fun new s₃ => wpAny (model C.p C.w) A (storeName L.env x new) (fun _ s' => Pst C L s₀ B F FlOk Q .next s') (fun _ _ => False) s₃) (fun _ _ => False) s₂) (fun _ _ => False) s :=
      wp_then h hr hR trivial fun V2 s1 F1 w2 σ1 μ1 n1 R1 o1 q1 => wp_then (q1 V V2) hr R1 ⟨hW.mono n1.1, o1⟩ fun V3 s2 F2 w3 σ2 μ2 n2 R2 o2 q2 =>
        wp_store R2 hi hk o2 fun s' R' => ⟨F2, .next, _, μ2, n1.trans n2, R', trivial, q2⟩
    rcases hk with rfl | rfl
    · obtain ⟨m, hm, hx⟩ := hV
      exact wpAny_loadName_local L.ok.kind (L.ok.loc x (List.mem_of_getElem? hi)) hm hx step
    · obtain ⟨c, hc, hx⟩ := hV
      exact wpAny_loadName_cell L.ok.kind (L.ok.cel x (List.mem_of_getElem? hi)).1 hc hx step
theorem wp_getItem {A : Around} {s₀ : Shared} {B F : Fz} {s : Shared} {V1 V2 : Value} {w : WV} {xs : List PyData} {k : Int} {j : Nat} {d : PyData} {K : Value → Shared → Prop}
    (hR : Rel C.h₀ s₀ B F L.nm L.env σ μ s) (hl : LL μ w xs) (o1 : WOk F V1 w) (o2 : DF F V2 (.int k)) (h0 : 0 ≤ k) (hn : (xs.length : Int) < 2 ^ 62) (hj : seqIndex? k xs.length = some j) (hx : xs[j]? = some d)
    (h : ∀ V, DF F V d → K V s) : wpAny (model C.p C.w) A (getItem V1 V2) K (fun _ _ => False) s := by
  obtain ⟨a, vs, rfl, hL, hD⟩ := hl.at hR o1
  obtain ⟨u, rfl⟩ := DF.int_inv o2
  obtain ⟨v, hv, hdv⟩ := hD.get hx
  have e1 := hD.length
  simp only [Array.length_toList] at e1
  have hi := seqIndex_lt hj
  have hq := hi.2.1 h0
  refine wpAny_getItem_list hL h0 (by omega) ?_ (h v hdv)
  rw [hq.1]; simpa using hv
theorem StA.augS {o i : Expr} {tp pos : Pos} {e : Expr} {op : Operator} {Q : AF → Sg → Mu → Prop}
    (h : EvA C L o σ μ (KAugS C L i e op Q))
    (hi : ∀ ov iv new, augStore i ov iv new = (do holding [new, ov, iv] (setItem ov iv new); release [new, ov, iv] []; pure .next) := by intros; rfl) : StA C L (.AugAssign (.Subscript o i tp) op e pos) σ μ Q :=
  fun A s₀ B F s hr hR _ => wpAny_AugAssign_SubscriptAny (wp_then h hr hR trivial fun V1 s1 F1 w1 σ1 μ1 n1 R1 o1 q1 => wp_then q1 hr R1 trivial fun V2 s2 F2 w2 σ2 μ2 n2 R2 o2 q2 => by
    obtain ⟨a, xs, k, j, d, rfl, hm, rfl, h0, hn, hj, hx, q2⟩ := q2
    refine wp_getItem R2 (.inr ⟨a, rfl, hm⟩) (WOk.mono n2.1 o1) o2 h0 hn hj hx fun V3 o3 => ?_
    refine wp_then q2 hr R2 trivial fun V4 s4 F4 w4 σ4 μ4 n4 R4 o4 q4 => wp_then (q4 V3 V4) hr R4 ⟨DF.mono n4.1 o3, o4⟩ fun V5 s5 F5 w5 σ5 μ5 n5 R5 o5 q5 => ?_
    obtain ⟨pre, post, d', rfl, rfl, hq⟩ := q5
    exact wp_setItem R5 o1 (DF.mono (n4.trans n5).1 o2) o5 h0 hn hj fun s' R' => ⟨F5, .next, _, _, n1.trans (n2.trans (n4.trans n5)), R', trivial, hq⟩) hi
theorem StA.ret {e : Expr} {pos : Pos} {Q : AF → Sg → Mu → Prop} (h : EvA C L e σ μ (KRet Q)) : StA C L (.Return (some e) pos) σ μ Q :=
  fun A s₀ B F s hr hR _ => wpAny_Return_some (wp_then h hr hR trivial fun V1 s1 F1 w1 σ1 μ1 n1 R1 o1 q1 => ⟨F1, .ret w1, σ1, μ1, n1, R1, o1, q1⟩)
theorem StA.cont {pos : Pos} {Q : AF → Sg → Mu → Prop} (h : Q .cont σ μ) : StA C L (.Continue pos) σ μ Q :=
  fun A s₀ B F s hr hR _ => wpAny_Continue ⟨F, .cont, σ, μ, Nx.refl B F, hR, trivial, h⟩
theorem StA.ite {t : Expr} {b o : List Stmt} {pos : Pos} {Q : AF → Sg → Mu → Prop} (h : TrA C L t σ μ (KIte C L b o Q)) : StA C L (.If t b o pos) σ μ Q :=
  fun A s₀ B F s hr hR _ => wpAny_If (wp_then h hr hR trivial fun a s1 F1 c σ1 μ1 n1 R1 o1 q1 => by
    have e : a = c := o1
    subst e
    cases a with
    | true => exact wp_nx n1 (q1 A s₀ B F1 s1 hr R1 trivial)
    | false => exact wp_nx n1 (q1 A s₀ B F1 s1 hr R1 trivial))
/-- a call for its effect, its value None -/
theorem StA.expr {e : Expr} {pos : Pos} {Q : AF → Sg → Mu → Prop} (h : EvA C L e σ μ (KExpr Q))
    (hi : interactive L.env = false) (hs : swapsWith e none pos.line L.env = pure false := by rfl) : StA C L (.Expr e pos) σ μ Q :=
  fun A s₀ B F s hr hR _ => by
    refine wpAny_Expr (wp_then h hr hR trivial fun V1 s1 F1 w1 σ1 μ1 n1 R1 o1 q1 => ?_) hi hs
    obtain ⟨rfl, hq⟩ := q1
    rw [DF.none_inv o1]
    exact ⟨F1, .next, σ1, μ1, n1, R1, trivial, hq⟩
theorem StA.while {t : Expr} {b : List Stmt} {pos : Pos} {Q : AF → Sg → Mu → Prop} (I : Nat → Sg → Mu → Prop) (n : Nat) (h0 : I n σ μ)
    (turn : ∀ n σ μ, I n σ μ → TrA C L t σ μ (KWhile C L b I n Q)) :
    StA C L (.While t b [] pos) σ μ Q := fun A s₀ B F s hr hR _ => by
  refine wpAny_While (codeAny_whileLoop (fun n s' => ∃ F' σ' μ', Nx B F F' ∧ Rel C.h₀ s₀ B F' L.nm L.env σ' μ' s' ∧ I n σ' μ') ?_ n ⟨F, σ, μ, Nx.refl B F, hR, h0⟩)
  rintro n s' ⟨F', σ', μ', n', R', hI⟩
  refine wpAny_mono (wp_then (turn n σ' μ' hI) hr R' trivial fun a s1 F1 c σ1 μ1 n1 R1 o1 q1 => ?_) (fun _ _ x => x) (fun _ _ x => x.elim)
  have e : a = c := o1
  subst e
  cases a with
  | false => exact wpAny_mono (wpAny_execs_nil (E := fun _ _ => False) (by exact ⟨F1, .next, σ1, μ1, n'.trans n1, R1, trivial, q1⟩)) (fun _ _ x => x) (fun _ _ x => x.elim)
  | true =>
    refine wpAny_mono (wp_then q1 hr R1 trivial fun f s2 F2 f' σ2 μ2 n2 R2 o2 q2 => ?_) (fun _ _ x => x) (fun _ _ x => x.elim)
    cases f <;> cases f' <;> first
      | exact o2.elim
      | exact (let ⟨m, hm, hi⟩ := q2; ⟨m, hm, F2, σ2, μ2, n'.trans (n1.trans n2), R2, hi⟩)
      | exact ⟨F2, .next, σ2, μ2, n'.trans (n1.trans n2), R2, trivial, q2⟩
      | exact ⟨F2, _, σ2, μ2, n'.trans (n1.trans n2), R2, o2, q2⟩
end
end Mine
end
section
open PySem PySem.W PySem.Calls PyProof.Rows
set_option linter.unusedVariables false
namespace Mine

/-- an iterator over known values -/
structure Itr (C : Cx) (A : Around) (target : Expr) (F0 : Fz) (ws : List WV) (I : Addr) (fp wr : List Addr) (St : Nat → Heap → Prop) : Prop where
  sub : ∀ b ∈ wr, b ∈ fp
  frame : ∀ i h h', St i h → (∀ b ∈ fp, ∀ o, h.get? b = some o → h'.get? b = some o) → St i h'
  live : ∀ i h, St i h → ∀ b ∈ fp, ∃ o, h.get? b = some o
  step : ∀ (i : Nat) (w : WV) (s : Shared) (F : Fz) (K : Value → Shared → Prop), ws[i]? = some w → St i s.heap → F0.le F → F.sub s.heap → (∀ b ∈ wr, F.off b) →
    (∀ V h' tk F', St (i + 1) h' → (∀ b o, b ∉ wr → s.heap.get? b = some o → h'.get? b = some o) → F.le F' → F'.sub h' → (∀ b o, F' b o → F b o ∨ s.heap.get? b = none) → WOk F' V w → K V { s with heap := h', toks := tk }) →
    wpAny (model C.p C.w) A (pyNext (.ref I)) (fun r s1 => ∃ V, r = some V ∧ wpAny (model C.p C.w) A (letOwnedTupleGo target (.ref I) V) (fun _ s2 => K V s2) (fun _ _ => False) s1) (fun _ _ => False) s
  done : ∀ (s : Shared) (K : Option Value → Shared → Prop), St ws.length s.heap → (∀ h' tk, (∀ b o, b ∉ wr → s.heap.get? b = some o → h'.get? b = some o) → K none { s with heap := h', toks := tk }) →
    wpAny (model C.p C.w) A (pyNext (.ref I)) K (fun _ _ => False) s
  self : ∀ i (s : Shared) (K : Value → Shared → Prop), St i s.heap → K (.ref I) s → wpAny (model C.p C.w) A (pyIter (.ref I)) K (fun _ _ => False) s

theorem Itr.ofWalks {C : Cx} {A : Around} {x : Str} {px : Pos} {F0 : Fz} {ws : List WV} {I : Addr} {fp wr : List Addr} {P : Nat → Value → Prop} {St : Nat → Heap → Prop}
    (W : Walks C.p C.w A I fp wr ws.length P St) (hP : ∀ i V w F, P i V → ws[i]? = some w → F0.le F → WOk F V w) (live : ∀ i h, St i h → ∀ b ∈ fp, ∃ o, h.get? b = some o) : Itr C A (.Name x px) F0 ws I fp wr St where
  sub := W.sub
  frame := W.frame
  live := live
  step := fun i w s F K hw hst hF hs hoff hK =>
    W.item i s _ _ (List.getElem?_eq_some_iff.mp hw).1 hst fun v h' tk hPv hst' hk =>
      ⟨v, rfl, wpAny_pure (hK v h' tk F hst' hk (Fz.le.refl F) (fun b o e => hk b o (fun hb => hoff b hb o e) (hs b o e)) (fun _ _ q => .inl q) (hP i v w F hPv hw hF))⟩
  done := fun s K hst hK => W.done s _ _ hst hK
  self := fun i s K hst hK => W.self i s _ _ hst hK

theorem Itr.ofWalksT {C : Cx} {A : Around} {elts : List Expr} {k : Nat} {pos : Pos} {F0 : Fz} {ws : List WV} {I : Addr} {fp wr : List Addr} {Pt : Nat → Array Value → Prop} {St : Nat → Heap → Prop} {Mid : Nat → Addr → Heap → Prop}
    (W : WalksT C.p C.w A I fp wr ws.length Pt St Mid) (hP : ∀ i vals w F, Pt i vals → ws[i]? = some w → F0.le F → ∃ ds, w = .val (.tuple ds) ∧ DFs F vals.toList ds) (live : ∀ i h, St i h → ∀ b ∈ fp, ∃ o, h.get? b = some o) :
    Itr C A (.Tuple elts k pos) F0 ws I fp wr St where
  sub := W.sub
  frame := W.frame
  live := live
  step := fun i w s F K hw hst hF hs hoff hK =>
    W.item i s _ _ (List.getElem?_eq_some_iff.mp hw).1 hst fun T vals h' tk hPt hT hIs hMid hk =>
      ⟨.ref T, rfl, W.go elts k pos i T _ _ _ hMid fun h'' hst' hk' => by
        obtain ⟨oT, hoT, hcT, n, hdT⟩ := hIs
        have hoT' : h''.get? T = some oT := hk' T oT (W.apart i T h' hMid) hoT
        obtain ⟨ds, rfl, hD⟩ := hP i vals w F hPt hw hF
        have hTn : s.heap.get? T = none := Heap.get?_none_of_le hT
        refine hK _ h'' tk (fun b o => F b o ∨ (b = T ∧ o = oT)) hst' (fun b o hb e => hk' b o hb (hk b o hb e)) (fun _ _ q => .inl q) ?_ ?_ (DF.tuple (.inr ⟨rfl, rfl⟩) hcT hdT (hD.mono fun _ _ q => .inl q))
        · rintro b o (q | ⟨rfl, rfl⟩)
          · have hb : b ∉ wr := fun hb => hoff b hb o q
            exact hk' b o hb (hk b o hb (hs b o q))
          · exact hoT'
        · rintro b o (q | ⟨rfl, rfl⟩)
          · exact .inl q
          · exact .inr hTn⟩
  done := fun s K hst hK => W.done s _ _ hst hK
  self := fun i s K hst hK => W.self i s _ _ hst hK

noncomputable def Foreign (env : Env) (μ : Mu) (b : Addr) : Prop := (∀ p ∈ μ, p.1 ≠ b) ∧ b ≠ env.locals ∧ ∀ x c, env.cells.lookup x = some c → c ≠ b

inductive ItP (C : Cx) (L : Lx) (A : Around) (target : Expr) (s₀ : Shared) (B F : Fz) (Q : List WV → Sg → Mu → Prop) (it : Value) (s2 : Shared) : Prop
  | mk (F' : Fz) (ws : List WV) (σ' : Sg) (μ' : Mu) (I : Addr) (fp wr : List Addr) (St : Nat → Heap → Prop) (F0 : Fz) (e : it = .ref I) (nx : Nx B F F') (rel : Rel C.h₀ s₀ B F' L.nm L.env σ' μ' s2) (itr : Itr C A target F0 ws I fp wr St) (st : St 0 s2.heap) (f0 : F0.le F') (hwr : ∀ b ∈ wr, B.off b ∧ F'.off b) (hfp : ∀ b ∈ fp, Foreign L.env μ' b) (h : Q ws σ' μ')
/-- the source of a loop -/
noncomputable def ItA (C : Cx) (L : Lx) (target e : Expr) (σ : Sg) (μ : Mu) (Q : List WV → Sg → Mu → Prop) : Prop :=
  ∀ A s₀ B F s, Room L.k A → Rel C.h₀ s₀ B F L.nm L.env σ μ s → wpAny (model C.p C.w) A (eval e L.env) (fun x s1 => wpAny (model C.p C.w) A (pyIter x) (ItP C L A target s₀ B F Q) (fun _ _ => False) s1) (fun _ _ => False) s

inductive KIt (f : List PyData → List WV) (Q : List WV → Sg → Mu → Prop) (w : WV) (σ1 : Sg) (μ1 : Mu) : Prop
  | mk (ds : List PyData) (e : w = .val (.list ds)) (h : Q (f ds) σ1 μ1)
inductive KItR (Q : List WV → Sg → Mu → Prop) (w : WV) (σ1 : Sg) (μ1 : Mu) : Prop
  | mk (ds : List PyData) (e : w = .val (.list ds)) (h : Q (ds.reverse.map .val) σ1 μ1)
inductive KIt2 (Q : List WV → Sg → Mu → Prop) (w : WV) (σ1 : Sg) (μ1 : Mu) : Prop
  | mk (w1 w2 : WV) (e : w = .two w1 w2) (h : Q [w1, w2] σ1 μ1)
inductive KR1 (Q : List WV → Sg → Mu → Prop) (w : WV) (σ1 : Sg) (μ1 : Mu) : Prop
  | mk (n : Int) (e : w = .val (.int n)) (lo : -(2 ^ 62) ≤ n) (hi : n < 2 ^ 62) (h : Q ((List.range n.toNat).map fun (i : Nat) => .val (.int i)) σ1 μ1)
inductive KR2b (w : WV) (Q : List WV → Sg → Mu → Prop) (w2 : WV) (σ2 : Sg) (μ2 : Mu) : Prop
  | mk (a b : Int) (e : w = .val (.int a)) (e2 : w2 = .val (.int b)) (la : -(2 ^ 62) ≤ a) (ha : a < 2 ^ 62) (lb : -(2 ^ 62) ≤ b) (hb : b < 2 ^ 62) (h : Q ((List.range (b - a).toNat).map fun (i : Nat) => .val (.int (a + i))) σ2 μ2)
noncomputable abbrev KR2 (C : Cx) (L : Lx) (e2 : Expr) (Q : List WV → Sg → Mu → Prop) : WV → Sg → Mu → Prop := fun w σ1 μ1 => EvA C L e2 σ1 μ1 (KR2b w Q)
inductive KR3c (w w2 : WV) (Q : List WV → Sg → Mu → Prop) (w3 : WV) (σ3 : Sg) (μ3 : Mu) : Prop
  | mk (a : Int) (e : w = .val (.int a)) (e2 : w2 = .val (.int (-1))) (e3 : w3 = .val (.int (-1))) (lo : -(2 ^ 61) ≤ a) (hi : a < 2 ^ 61) (h : Q ((List.range (a + 1).toNat).map fun (i : Nat) => .val (.int (a - i))) σ3 μ3)
noncomputable abbrev KR3b (C : Cx) (L : Lx) (e3 : Expr) (w : WV) (Q : List WV → Sg → Mu → Prop) : WV → Sg → Mu → Prop := fun w2 σ2 μ2 => EvA C L e3 σ2 μ2 (KR3c w w2 Q)
noncomputable abbrev KR3 (C : Cx) (L : Lx) (e2 e3 : Expr) (Q : List WV → Sg → Mu → Prop) : WV → Sg → Mu → Prop := fun w σ1 μ1 => EvA C L e2 σ1 μ1 (KR3b C L e3 w Q)
/-- the loop's body: each item bound, then the statements -/
noncomputable abbrev KBody (C : Cx) (L : Lx) (b : List Stmt) (J : Sg → Mu → Prop) (Q : AF → Sg → Mu → Prop) : Sg → Mu → Prop := fun σ3 μ3 => ExA C L b σ3 μ3 (KTurn J Q)
inductive KFor (C : Cx) (L : Lx) (t : Expr) (b : List Stmt) (Q : AF → Sg → Mu → Prop) (ws : List WV) (σ1 : Sg) (μ1 : Mu) : Prop
  | mk (J : Nat → Sg → Mu → Prop) (h0 : J 0 σ1 μ1) (turn : ∀ (i : Nat) (w : WV) (σ2 : Sg) (μ2 : Mu), ws[i]? = some w → J i σ2 μ2 → AgA C L t w σ2 μ2 (KBody C L b (J (i + 1)) Q)) (fin : ∀ σ2 μ2, J ws.length σ2 μ2 → Q .next σ2 μ2)

section
variable {C : Cx} {L : Lx} {σ : Sg} {μ : Mu}

theorem foreign_new {s₀ : Shared} {B F : Fz} {s : Shared} (hR : Rel C.h₀ s₀ B F L.nm L.env σ μ s) {a : Addr} (ha : s.heap.objs.size ≤ a) : Foreign L.env μ a := by
  refine ⟨(fresh_off hR ha).2.2, ?_, ?_⟩
  · obtain ⟨m, hm⟩ := hR.ns
    exact fun e => Nat.lt_irrefl _ (Nat.lt_of_lt_of_le (e ▸ hm.lt) ha)
  · intro x c hc e
    obtain ⟨v, hv⟩ := hR.cells x c hc
    exact Nat.lt_irrefl _ (Nat.lt_of_lt_of_le (e ▸ hv.lt) ha)
theorem foreign_list {s₀ : Shared} {B F : Fz} {s : Shared} (hR : Rel C.h₀ s₀ B F L.nm L.env σ μ s) {a : Addr} {o : Obj} {vs : Array Value} {n : Nat} (ha : F a o) (hd : o.data = .seq vs n) : Foreign L.env μ a := by
  have ho := hR.keepF a o ha
  refine ⟨fun p hp e => (hR.mu p hp).2.2 o (e ▸ ha), ?_, ?_⟩
  · rintro rfl; exact hR.nsF o ha
  · rintro x c hc rfl
    obtain ⟨v, o', ho', hd'⟩ := hR.cells x c hc
    rw [ho] at ho'; cases ho'; rw [hd] at hd'; cases hd'

theorem ItA.list {x : Str} {px : Pos} {e : Expr} {Q : List WV → Sg → Mu → Prop} (h : EvA C L e σ μ (KIt (List.map .val) Q)) : ItA C L (.Name x px) e σ μ Q :=
  fun A s₀ B F s hr hR => wp_then h hr hR trivial fun V s1 F1 w σ1 μ1 n1 R1 o1 q1 => by
    obtain ⟨ds, rfl, hq⟩ := q1
    obtain ⟨a, o, vs, n, rfl, ho, hc, hd, hD⟩ := DF.list_inv o1
    have hl : s1.heap.IsList a vs := ⟨o, R1.keepF _ _ ho, hc, n, hd⟩
    refine wpAny_pyIter_list hl ?_
    have e1 := hD.length
    simp only [Array.length_toList] at e1
    have hne : a ≠ s1.heap.objs.size := Nat.ne_of_lt (Heap.lt_size (R1.keepF _ _ ho))
    have W := Walks.list (prog := C.p) (w := C.w) hr.1 s1.heap.objs.size a hne vs
    rw [show vs.size = (ds.map WV.val).length by simp [e1]] at W
    have R2 := push_old R1 { cls := .type "list_iterator", data := .fields #[.ref a, .int 0 0] } s1.toks
    refine ⟨F1, ds.map .val, σ1, μ1, _, _, _, _, F1, rfl, n1, R2, Itr.ofWalks W ?_ ?_, ⟨⟨_, Heap.get?_push_size _ rfl, rfl, rfl⟩, ⟨o, Heap.get?_push_of_some _ (R1.keepF _ _ ho), hc, n, hd⟩⟩, Fz.le.refl _, ?_, ?_, hq⟩
    · intro i V w F hP hw hF
      rw [List.getElem?_map] at hw
      cases hx : ds[i]? with
      | none => rw [hx] at hw; cases hw
      | some d =>
        rw [hx] at hw; cases hw
        obtain ⟨v, hv, hdv⟩ := hD.get hx
        have : v = V := by
          have h1 : vs[i]? = some v := by simpa using hv
          rw [hP] at h1; exact (Option.some.inj h1).symm
        subst this
        exact WOk.v (hdv.mono hF)
    · rintro i h ⟨⟨o1, h1, _⟩, ⟨o2, h2, _⟩⟩ b hb
      rcases List.mem_cons.mp hb with rfl | hb
      · exact ⟨_, h1⟩
      · rw [List.mem_singleton.mp hb]; exact ⟨_, h2⟩
    · intro b hb
      rw [List.mem_singleton.mp hb]
      exact ⟨(fresh_off R1 (Nat.le_refl _)).1, (fresh_off R1 (Nat.le_refl _)).2.1⟩
    · intro b hb
      rcases List.mem_cons.mp hb with rfl | hb
      · exact foreign_new R1 (Nat.le_refl _)
      · rw [List.mem_singleton.mp hb]; exact foreign_list R1 ho hd

theorem ItA.two {x : Str} {px : Pos} {e : Expr} {Q : List WV → Sg → Mu → Prop} (h : EvA C L e σ μ (KIt2 Q)) : ItA C L (.Name x px) e σ μ Q :=
  fun A s₀ B F s hr hR => wp_then h hr hR trivial fun V s1 F1 w σ1 μ1 n1 R1 o1 q1 => by
    obtain ⟨w1, w2, rfl, hq⟩ := q1
    obtain ⟨a, o, V1, V2, n, rfl, ho, hc, hd, k1, k2⟩ := o1
    have hl : s1.heap.IsTuple a #[V1, V2] := ⟨o, R1.keepF _ _ ho, hc, n, hd⟩
    refine wpAny_pyIter_tuple hl ?_
    have hne : a ≠ s1.heap.objs.size := Nat.ne_of_lt (Heap.lt_size (R1.keepF _ _ ho))
    have W := Walks.tuple (prog := C.p) (w := C.w) hr.1 s1.heap.objs.size a hne #[V1, V2]
    have R2 := push_old R1 { cls := .type "tuple_iterator", data := .fields #[.ref a, .int 0 0] } s1.toks
    refine ⟨F1, [w1, w2], σ1, μ1, _, _, _, _, F1, rfl, n1, R2, Itr.ofWalks W ?_ ?_, ⟨⟨_, Heap.get?_push_size _ rfl, rfl, rfl⟩, ⟨o, Heap.get?_push_of_some _ (R1.keepF _ _ ho), hc, n, hd⟩⟩, Fz.le.refl _, ?_, ?_, hq⟩
    · intro i V w F hP hw hF
      match i, hP, hw with
      | 0, hP, hw => simp at hP hw; subst hP; subst hw; exact k1.mono hF
      | 1, hP, hw => simp at hP hw; subst hP; subst hw; exact k2.mono hF
      | i + 2, hP, hw => simp at hw
    · rintro i h ⟨⟨o1, h1, _⟩, ⟨o2, h2, _⟩⟩ b hb
      rcases List.mem_cons.mp hb with rfl | hb
      · exact ⟨_, h1⟩
      · rw [List.mem_singleton.mp hb]; exact ⟨_, h2⟩
    · intro b hb
      rw [List.mem_singleton.mp hb]
      exact ⟨(fresh_off R1 (Nat.le_refl _)).1, (fresh_off R1 (Nat.le_refl _)).2.1⟩
    · intro b hb
      rcases List.mem_cons.mp hb with rfl | hb
      · exact foreign_new R1 (Nat.le_refl _)
      · rw [List.mem_singleton.mp hb]; exact foreign_list R1 ho hd

/-- the common end of the ranges -/
theorem wp_rangeIter {A : Around} {s₀ : Shared} {B F F1 : Fz} {s : Shared} {x : Str} {px : Pos} {r : Addr} {a b c : Int} {t u v : Tok} {n : Nat} {Q : List WV → Sg → Mu → Prop} (hr : Room L.k A) (n1 : Nx B F F1) (R1 : Rel C.h₀ s₀ B F1 L.nm L.env σ μ s)
    (hI : IsRange s.heap r a b c t u v) (hs : Builtin.Range.small a b c = true) (hn : Builtin.Range.rangeSize a b c = n) (hq : Q ((List.range n).map fun (i : Nat) => .val (.int (a + i * c))) σ μ) :
    wpAny (model C.p C.w) A (pyIter (.ref r)) (ItP C L A (.Name x px) s₀ B F Q) (fun _ _ => False) s := by
  refine wpAny_pyIter_range hI hs ?_
  have W := Walks.range (prog := C.p) (w := C.w) hr.1 s.heap.objs.size a c n
  have R2 := push_old R1 { cls := .type "range_iterator", data := .fields #[rawInt a, rawInt (Builtin.Range.rangeSize a b c), rawInt c] } s.toks
  have e : n = ((List.range n).map fun (i : Nat) => WV.val (.int (a + i * c))).length := by simp
  have W' : Walks C.p C.w A s.heap.objs.size [s.heap.objs.size] [s.heap.objs.size] ((List.range n).map fun (i : Nat) => WV.val (.int (a + i * c))).length (fun i v => ∃ t, v = Value.int (a + ↑i * c) t) fun i h => IsRangeIter h s.heap.objs.size (a + ↑i * c) (↑n - ↑i) c := by
    rw [← e]; exact W
  refine ⟨F1, _, σ, μ, _, _, _, _, F1, rfl, n1, R2, Itr.ofWalks W' ?_ ?_, ?_, Fz.le.refl _, ?_, ?_, hq⟩
  · rintro i V w F ⟨t, rfl⟩ hw hF
    rw [List.getElem?_map] at hw
    cases hx : (List.range n)[i]? with
    | none => rw [hx] at hw; cases hw
    | some j =>
      rw [hx] at hw; cases hw
      have : j = i := by
        have := List.getElem?_eq_some_iff.mp hx
        simpa using this.2.symm
      subst this
      exact WOk.v (.int _ _)
  · intro i h hh b hb
    rw [List.mem_singleton.mp hb]; exact ⟨_, hh⟩
  · show Heap.get? (s.heap.push _) s.heap.objs.size = _
    rw [Heap.get?_push_size _ rfl]
    rw [hn]
    simp
  · intro b hb
    rw [List.mem_singleton.mp hb]
    exact ⟨(fresh_off R1 (Nat.le_refl _)).1, (fresh_off R1 (Nat.le_refl _)).2.1⟩
  · intro b hb
    rw [List.mem_singleton.mp hb]
    exact foreign_new R1 (Nat.le_refl _)

theorem rangeSize_up {a b : Int} : Builtin.Range.rangeSize a b 1 = ((b - a).toNat : Nat) := by
  rw [rangeSize_one]; split <;> omega

theorem ItA.range1 {x y : Str} {px np pos : Pos} {e : Expr} {Q : List WV → Sg → Mu → Prop} (i : Nat) (hi : L.nm[i]? = some (y, .globalImplicit)) (hm : C.mg y = none) (hv : C.mb y = some (.type "range"))
    (h : EvA C L e σ μ (KR1 Q))
    (he : starEach [e] L.env = [(false, eval e L.env)] := by rfl) : ItA C L (.Name x px) (.Call (.Name y np) [e] [] pos) σ μ Q :=
  fun A s₀ B F s hr hR => by
    refine Call_ (wp_builtin hR hi hm hv (callWith_type1 ?_ he rfl))
    refine args_cons (wp_then h hr hR trivial fun V1 s1 F1 w1 σ1 μ1 n1 R1 o1 q1 => args_nil ?_) he
    obtain ⟨n, rfl, h1, h2, hq⟩ := q1
    obtain ⟨t, rfl⟩ := DF.int_inv o1
    refine call_range_1 ?_
    have R2 := push_old R1 { cls := .type "range", data := .fields #[.int 0 s1.toks, .int n t, .int 1 (s1.toks + 1)] } (s1.toks + 1 + 1)
    refine wp_rangeIter (n := n.toNat) hr n1 R2 (IsRange.new _ _ _ _ _ _ _) (small_one (by omega) (by omega) h1 h2) (by rw [rangeSize_up]; simp) ?_
    simpa using hq
theorem ItA.range2 {x y : Str} {px np pos : Pos} {e1 e2 : Expr} {Q : List WV → Sg → Mu → Prop} (i : Nat) (hi : L.nm[i]? = some (y, .globalImplicit)) (hm : C.mg y = none) (hv : C.mb y = some (.type "range"))
    (h : EvA C L e1 σ μ (KR2 C L e2 Q))
    (he : starEach [e1, e2] L.env = (false, eval e1 L.env) :: starEach [e2] L.env := by rfl) (he2 : starEach [e2] L.env = (false, eval e2 L.env) :: starEach [] L.env := by rfl) : ItA C L (.Name x px) (.Call (.Name y np) [e1, e2] [] pos) σ μ Q :=
  fun A s₀ B F s hr hR => by
    refine Call_ (wp_builtin hR hi hm hv (callWith_type1 ?_ he (by rw [he2]; rfl)))
    refine args_cons (wp_then h hr hR trivial fun V1 s1 F1 w1 σ1 μ1 n1 R1 o1 q1 => args_cons (wp_then q1 hr R1 trivial fun V2 s2 F2 w2 σ2 μ2 n2 R2 o2 q2 => args_nil ?_) he2) he
    obtain ⟨a, b, rfl, rfl, h1, h2, h3, h4, hq⟩ := q2
    obtain ⟨t, rfl⟩ := DF.int_inv o1
    obtain ⟨u, rfl⟩ := DF.int_inv o2
    refine call_range_2 ?_
    have R3 := push_old R2 { cls := .type "range", data := .fields #[.int a t, .int b u, .int 1 s2.toks] } (s2.toks + 1)
    refine wp_rangeIter (n := (b - a).toNat) hr (n1.trans n2) R3 (IsRange.new _ _ _ _ _ _ _) (small_one h1 h2 h3 h4) rangeSize_up ?_
    simpa using hq
theorem ItA.down {x y : Str} {px np pos : Pos} {e1 e2 e3 : Expr} {Q : List WV → Sg → Mu → Prop} (i : Nat) (hi : L.nm[i]? = some (y, .globalImplicit)) (hm : C.mg y = none) (hv : C.mb y = some (.type "range"))
    (h : EvA C L e1 σ μ (KR3 C L e2 e3 Q))
    (he : starEach [e1, e2, e3] L.env = (false, eval e1 L.env) :: starEach [e2, e3] L.env := by rfl) (he2 : starEach [e2, e3] L.env = (false, eval e2 L.env) :: starEach [e3] L.env := by rfl) (he3 : starEach [e3] L.env = (false, eval e3 L.env) :: starEach [] L.env := by rfl) : ItA C L (.Name x px) (.Call (.Name y np) [e1, e2, e3] [] pos) σ μ Q :=
  fun A s₀ B F s hr hR => by
    refine Call_ (wp_builtin hR hi hm hv (callWith_type1 ?_ he (by rw [he2, he3]; rfl)))
    refine args_cons (wp_then h hr hR trivial fun V1 s1 F1 w1 σ1 μ1 n1 R1 o1 q1 => args_cons (wp_then q1 hr R1 trivial fun V2 s2 F2 w2 σ2 μ2 n2 R2 o2 q2 => args_cons (wp_then q2 hr R2 trivial fun V3 s3 F3 w3 σ3 μ3 n3 R3 o3 q3 => args_nil ?_) he3) he2) he
    obtain ⟨a, rfl, rfl, rfl, h1, h2, hq⟩ := q3
    obtain ⟨t, rfl⟩ := DF.int_inv o1
    obtain ⟨u, rfl⟩ := DF.int_inv o2
    obtain ⟨v, rfl⟩ := DF.int_inv o3
    have hsz : Builtin.Range.rangeSize a (-1) (-1) = ((a + 1).toNat : Nat) := by
      unfold Builtin.Range.rangeSize
      simp only [show ¬ ((-1 : Int) > 0) by decide, if_false, Int.neg_neg, Int.ediv_one]
      split <;> omega
    refine call_range_3 (by decide) ?_ (.inr (hr.pylong (keep0 R3)))
    have R4 := push_old R3 { cls := .type "range", data := .fields #[.int a t, .int (-1) u, .int (-1) v] } s3.toks
    refine wp_rangeIter (n := (a + 1).toNat) hr (n1.trans (n2.trans n3)) R4 (IsRange.new _ _ _ _ _ _ _) ?_ hsz ?_
    · unfold Builtin.Range.small
      rw [hsz]
      simp only [Builtin.Range.rangeFitsLong, Bool.and_eq_true, Bool.or_eq_true, decide_eq_true_eq, beq_iff_eq, show ¬ ((-1 : Int) > 0) by decide, if_false]
      omega
    · have e : (fun (i : Nat) => WV.val (PyData.int (a + i * (-1)))) = fun (i : Nat) => WV.val (PyData.int (a - i)) := by funext i; congr 2; omega
      rw [e]; exact hq

theorem ItA.rev {x y : Str} {px np pos : Pos} {e : Expr} {Q : List WV → Sg → Mu → Prop} (i : Nat) (hi : L.nm[i]? = some (y, .globalImplicit)) (hm : C.mg y = none) (hv : C.mb y = some (.type "reversed"))
    (h : EvA C L e σ μ (KItR Q))
    (he : starEach [e] L.env = [(false, eval e L.env)] := by rfl) : ItA C L (.Name x px) (.Call (.Name y np) [e] [] pos) σ μ Q :=
  fun A s₀ B F s hr hR => by
    refine Call_ (wp_builtin hR hi hm hv (callWith_type1 ?_ he rfl))
    refine args_cons (wp_then h hr hR trivial fun V1 s1 F1 w1 σ1 μ1 n1 R1 o1 q1 => args_nil ?_) he
    obtain ⟨ds, rfl, hq⟩ := q1
    obtain ⟨a, o, vs, n, rfl, ho, hc, hd, hD⟩ := DF.list_inv o1
    have hl : s1.heap.IsList a vs := ⟨o, R1.keepF _ _ ho, hc, n, hd⟩
    refine call_reversed_list hl ?_
    have e1 := hD.length
    simp only [Array.length_toList] at e1
    have hne : a ≠ s1.heap.objs.size := Nat.ne_of_lt (Heap.lt_size (R1.keepF _ _ ho))
    have W := Walks.listRev (prog := C.p) (w := C.w) hr.1 s1.heap.objs.size a hne vs
    rw [show vs.size = (ds.reverse.map WV.val).length by simp [e1]] at W
    have R2 := push_old R1 (revObj a ((vs.size : Int) - 1)) s1.toks
    have hit : (s1.heap.push (revObj a ((vs.size : Int) - 1))).IsRevIter s1.heap.objs.size a ((vs.size : Int) - 1) := ⟨_, Heap.get?_push_size _ rfl, rfl, rfl⟩
    refine wpAny_pyIter_revIter hit ?_
    refine ⟨F1, ds.reverse.map .val, σ1, μ1, _, _, _, _, F1, rfl, n1, R2, Itr.ofWalks W ?_ ?_, ⟨Nat.zero_le _, by simpa [e1] using hit, ⟨o, Heap.get?_push_of_some _ (R1.keepF _ _ ho), hc, n, hd⟩⟩, Fz.le.refl _, ?_, ?_, hq⟩
    · intro i V w F hP hw hF
      rw [List.getElem?_map] at hw
      cases hx : ds.reverse[i]? with
      | none => rw [hx] at hw; cases hw
      | some d =>
        rw [hx] at hw; cases hw
        have hlt : i < ds.reverse.length := (List.getElem?_eq_some_iff.mp hx).1
        rw [List.length_reverse] at hlt
        rw [List.getElem?_reverse hlt] at hx
        obtain ⟨v, hv, hdv⟩ := hD.get hx
        have : v = V := by
          have h1 : vs[ds.length - 1 - i]? = some v := by simpa using hv
          have h2 : vs[ds.length - 1 - i]? = some V := by simpa using hP
          rw [h2] at h1; exact (Option.some.inj h1).symm
        subst this
        exact WOk.v (hdv.mono hF)
    · rintro i h ⟨_, ⟨o1, h1, _⟩, ⟨o2, h2, _⟩⟩ b hb
      rcases List.mem_cons.mp hb with rfl | hb
      · exact ⟨_, h1⟩
      · rw [List.mem_singleton.mp hb]; exact ⟨_, h2⟩
    · intro b hb
      rw [List.mem_singleton.mp hb]
      exact ⟨(fresh_off R1 (Nat.le_refl _)).1, (fresh_off R1 (Nat.le_refl _)).2.1⟩
    · intro b hb
      rcases List.mem_cons.mp hb with rfl | hb
      · exact foreign_new R1 (Nat.le_refl _)
      · rw [List.mem_singleton.mp hb]; exact foreign_list R1 ho hd

noncomputable def enumW (ds : List PyData) : List WV := (List.range ds.length).map fun (i : Nat) => .val (.tuple [.int i, ds.getD i .none])
theorem enumW_get {ds : List PyData} {i : Nat} {w : WV} (h : (enumW ds)[i]? = some w) : ∃ d, ds[i]? = some d ∧ w = .val (.tuple [.int i, d]) := by
  unfold enumW at h
  rw [List.getElem?_map] at h
  cases hx : (List.range ds.length)[i]? with
  | none => rw [hx] at h; cases h
  | some j =>
    rw [hx] at h
    have := List.getElem?_eq_some_iff.mp hx
    have hj : j = i := by simpa using this.2.symm
    have hlt : i < ds.length := by simpa using this.1
    subst hj
    cases h
    exact ⟨ds[j], by simp [hlt], by simp [List.getD_eq_getElem?_getD, hlt]⟩
theorem enumW_length (ds : List PyData) : (enumW ds).length = ds.length := by simp [enumW]

theorem ItA.enum {es : List Expr} {k : Nat} {tp : Pos} {y : Str} {np pos : Pos} {e : Expr} {Q : List WV → Sg → Mu → Prop} (i : Nat) (hi : L.nm[i]? = some (y, .globalImplicit)) (hm : C.mg y = none) (hv : C.mb y = some (.type "enumerate"))
    (h : EvA C L e σ μ (KIt enumW Q))
    (he : starEach [e] L.env = [(false, eval e L.env)] := by rfl) : ItA C L (.Tuple es k tp) (.Call (.Name y np) [e] [] pos) σ μ Q :=
  fun A s₀ B F s hr hR => by
    refine Call_ (wp_builtin hR hi hm hv (callWith_type1 ?_ he rfl))
    refine args_cons (wp_then h hr hR trivial fun V1 s1 F1 w1 σ1 μ1 n1 R1 o1 q1 => args_nil ?_) he
    obtain ⟨ds, rfl, hq⟩ := q1
    obtain ⟨a, o, vs, n, rfl, ho, hc, hd, hD⟩ := DF.list_inv o1
    have hl : s1.heap.IsList a vs := ⟨o, R1.keepF _ _ ho, hc, n, hd⟩
    refine call_enumerate_list hl fun h' hE hit hsz hk => ?_
    refine wpAny_pyIter_enum hE ?_
    have e1 := hD.length
    simp only [Array.length_toList] at e1
    have hlt := Heap.lt_size (R1.keepF _ _ ho)
    have W := WalksT.enumerate (prog := C.p) (w := C.w) hr.1 (s1.heap.objs.size + 1) s1.heap.objs.size a (Nat.succ_ne_self _) (Nat.ne_of_lt (Nat.lt_succ_of_lt hlt)) (Nat.ne_of_lt hlt) vs
    rw [show vs.size = (enumW ds).length by rw [enumW_length, e1]] at W
    have R2 := (R1.grow (F' := F1) (h' := h') (tk := s1.toks) hk (Fz.le.refl F1) (fun b o e => hk b o (R1.keepF b o e)) (fun _ _ x => .inl x)).1
    refine ⟨F1, enumW ds, σ1, μ1, _, _, _, _, F1, rfl, n1, R2, Itr.ofWalksT W ?_ ?_, ⟨⟨_, hE⟩, hit, ⟨o, hk _ _ (R1.keepF _ _ ho), hc, n, hd⟩⟩, Fz.le.refl _, ?_, ?_, hq⟩
    · rintro i vals w F ⟨t, x, hx, rfl⟩ hw hF
      obtain ⟨d, hd', rfl⟩ := enumW_get hw
      obtain ⟨v, hv, hdv⟩ := hD.get hd'
      have : v = x := by
        have h1 : vs[i]? = some v := by simpa using hv
        rw [hx] at h1; exact (Option.some.inj h1).symm
      subst this
      exact ⟨_, rfl, .cons (.int _ _) (.cons (hdv.mono hF) .nil)⟩
    · rintro i h ⟨⟨old, h1⟩, ⟨o2, h2, _⟩, ⟨o3, h3, _⟩⟩ b hb
      rcases List.mem_cons.mp hb with rfl | hb
      · exact ⟨_, h1⟩
      rcases List.mem_cons.mp hb with rfl | hb
      · exact ⟨_, h2⟩
      · rw [List.mem_singleton.mp hb]; exact ⟨_, h3⟩
    · intro b hb
      rcases List.mem_cons.mp hb with rfl | hb
      · exact ⟨(fresh_off R1 (Nat.le_succ _)).1, (fresh_off R1 (Nat.le_succ _)).2.1⟩
      · rw [List.mem_singleton.mp hb]
        exact ⟨(fresh_off R1 (Nat.le_refl _)).1, (fresh_off R1 (Nat.le_refl _)).2.1⟩
    · intro b hb
      rcases List.mem_cons.mp hb with rfl | hb
      · exact foreign_new R1 (Nat.le_succ _)
      rcases List.mem_cons.mp hb with rfl | hb
      · exact foreign_new R1 (Nat.le_refl _)
      · rw [List.mem_singleton.mp hb]; exact foreign_list R1 ho hd

/-- foreign objects turn -/
theorem Rel.foreign {s₀ : Shared} {B F F' : Fz} {s : Shared} {h' : Heap} {tk : Nat} {wr : List Addr} (R : Rel C.h₀ s₀ B F L.nm L.env σ μ s)
    (hk : ∀ b o, b ∉ wr → s.heap.get? b = some o → h'.get? b = some o) (hw : ∀ b ∈ wr, B.off b ∧ F.off b ∧ Foreign L.env μ b) (hF : F.le F') (hF' : F'.sub h') (hn : ∀ b o, F' b o → F b o ∨ s.heap.get? b = none) :
    Rel C.h₀ s₀ B F' L.nm L.env σ μ { s with heap := h', toks := tk } ∧ Nx B F F' := by
  have off : ∀ a o, s.heap.get? a = some o → F.off a → F'.off a := fun a o e hf o' x => (hn a o' x).elim (hf o') (fun q => by rw [e] at q; cases q)
  obtain ⟨m, hm⟩ := R.ns
  obtain ⟨h, tk0, rfl⟩ := R.same
  have hL : L.env.locals ∉ wr := fun hb => (hw _ hb).2.2.2.1 rfl
  have hC : ∀ x c, L.env.cells.lookup x = some c → c ∉ wr := fun x c hc hb => (hw _ hb).2.2.2.2 x c hc rfl
  have hM : ∀ p ∈ μ, p.1 ∉ wr := fun p hp hb => (hw _ hb).2.2.1 p hp rfl
  have nsk : ∀ m', h.Ns L.env.locals m' → h'.Ns L.env.locals m' := fun m' ⟨o, es, ep, e, r⟩ => ⟨o, es, ep, hk _ _ hL e, r⟩
  have cek : ∀ x c v, L.env.cells.lookup x = some c → h.IsCell c v → h'.IsCell c v := fun x c v hx ⟨o, e, r⟩ => ⟨o, hk _ _ (hC x c hx) e, r⟩
  refine ⟨⟨⟨_, _, rfl⟩, fun b o e => hF b o (R.baseF b o e), fun b o e => hk b o (fun hb => (hw b hb).1 o e) (R.keepB b o e), hF', ⟨m, nsk m hm⟩, R.nsB, ?_, ?_, ?_, R.cellsF, R.apart, ?_, ?_, R.nodup⟩, hF, ?_⟩
  · obtain ⟨o, _, _, ho, _⟩ := hm; exact off _ o ho R.nsF
  · intro x c hc; obtain ⟨v, hv⟩ := R.cells x c hc; exact ⟨v, cek x c v hc hv⟩
  · intro x c hc
    obtain ⟨v, o, ho, hd⟩ := R.cells x c hc
    exact off _ o ho (R.cellsX x c hc)
  · intro i x k w hx hw'
    obtain ⟨V, hV, hW⟩ := R.vars i x k w hx hw'
    exact ⟨V, hV.but (fun m' hm' => nsk m' hm') (fun c v hx hc => cek _ c v hx hc), hW.mono hF⟩
  · intro p hp
    obtain ⟨⟨vs, hl, hd⟩, hB, hFo⟩ := R.mu p hp
    obtain ⟨o, ho, hr⟩ := id hl
    exact ⟨⟨vs, ⟨o, hk _ _ (hM p hp) ho, hr⟩, hd.mono hF⟩, hB, off _ o ho hFo⟩
  · intro b o x
    refine (hn b o x).imp id fun q o' hb => ?_
    rw [R.keepB b o' hb] at q; cases q

/-- more objects are kept by what follows -/
theorem Rel.moreB {s₀ : Shared} {B F : Fz} {s : Shared} {fp : List Addr} (R : Rel C.h₀ s₀ B F L.nm L.env σ μ s) (hf : ∀ b ∈ fp, Foreign L.env μ b) :
    Rel C.h₀ s₀ (fun b o => B b o ∨ (b ∈ fp ∧ s.heap.get? b = some o)) F L.nm L.env σ μ s where
  same := R.same
  baseF := R.baseF
  keepB := fun b o x => x.elim (R.keepB b o) (fun q => q.2)
  keepF := R.keepF
  ns := R.ns
  nsB := fun o x => x.elim (R.nsB o) fun q => (hf _ q.1).2.1 rfl
  nsF := R.nsF
  cells := R.cells
  cellsX := R.cellsX
  cellsF := fun hfn x c hc o y => y.elim (R.cellsF hfn x c hc o) fun q => (hf _ q.1).2.2 x c hc rfl
  apart := R.apart
  vars := R.vars
  mu := fun p hp => ⟨(R.mu p hp).1, fun o x => x.elim ((R.mu p hp).2.1 o) fun q => (hf _ q.1).1 p hp rfl, (R.mu p hp).2.2⟩
  nodup := R.nodup

/-- what the loop knows between two turns -/
structure Btw (C : Cx) (L : Lx) (A : Around) (s₀ : Shared) (B F : Fz) (target : Expr) (F0 : Fz) (ws : List WV) (I : Addr) (fp wr : List Addr) (St : Nat → Heap → Prop) (i : Nat) (F' : Fz) (σ : Sg) (μ : Mu) (s : Shared) : Prop where
  nx : Nx B F F'
  rel : Rel C.h₀ s₀ B F' L.nm L.env σ μ s
  st : St i s.heap
  f0 : F0.le F'
  wr : ∀ b ∈ wr, B.off b ∧ F'.off b
  fp : ∀ b ∈ fp, Foreign L.env μ b

/-- one step of the loop's source: an item, and the body's own work is kept off it -/
theorem Btw.step {A : Around} {s₀ : Shared} {B F F0 : Fz} {target : Expr} {ws : List WV} {I : Addr} {fp wr : List Addr} {St : Nat → Heap → Prop} {i : Nat} {F' : Fz} {s : Shared} {w : WV} {K : Value → Shared → Prop}
    (it : Itr C A target F0 ws I fp wr St) (b : Btw C L A s₀ B F target F0 ws I fp wr St i F' σ μ s) (hw : ws[i]? = some w)
    (h : ∀ V s1 F1 B1, B.le B1 → F'.le F1 → Rel C.h₀ s₀ B1 F1 L.nm L.env σ μ s1 → WOk F1 V w →
      (∀ F2 σ2 μ2 s2, Nx B1 F1 F2 → Rel C.h₀ s₀ B1 F2 L.nm L.env σ2 μ2 s2 → Btw C L A s₀ B F target F0 ws I fp wr St (i + 1) F2 σ2 μ2 s2) → K V s1) :
    wpAny (model C.p C.w) A (pyNext (.ref I)) (fun r s1 => ∃ V, r = some V ∧ wpAny (model C.p C.w) A (letOwnedTupleGo target (.ref I) V) (fun _ s2 => K V s2) (fun _ _ => False) s1) (fun _ _ => False) s := by
  refine it.step i w s F' K hw b.st b.f0 b.rel.keepF (fun x hx => (b.wr x hx).2) fun V h' tk F1 hst hk hF hF1 hn hW => ?_
  obtain ⟨R1, n1⟩ := b.rel.foreign (tk := tk) hk (fun x hx => ⟨(b.wr x hx).1, (b.wr x hx).2, b.fp x (it.sub x hx)⟩) hF hF1 hn
  have R2 := R1.moreB (fp := fp) b.fp
  refine h V _ F1 _ (fun _ _ x => .inl x) hF R2 hW fun F2 σ2 μ2 s2 n2 R3 => ?_
  have live := it.live (i + 1) _ hst
  have kept : ∀ x ∈ fp, ∀ o, h'.get? x = some o → s2.heap.get? x = some o := fun x hx o e => R3.keepB x o (.inr ⟨hx, e⟩)
  have n2' : Nx B F1 F2 := n2.anti fun _ _ x => .inl x
  refine ⟨b.nx.trans (n1.trans n2'), R3.antiB (fun _ _ x => .inl x), it.frame _ _ _ hst kept, b.f0.trans (hF.trans n2.1), fun x hx => ⟨(b.wr x hx).1, fun o q => ?_⟩, fun x hx => ⟨fun p hp e => ?_, (b.fp x hx).2⟩⟩
  · obtain ⟨o', ho'⟩ := live x (it.sub x hx)
    rcases n2.2 x o q with q | q
    · rcases hn x o q with q | q
      · exact (b.wr x hx).2 o q
      · obtain ⟨o'', ho''⟩ := it.live i _ b.st x (it.sub x hx)
        rw [q] at ho''; cases ho''
    · exact q o' (.inr ⟨it.sub x hx, ho'⟩)
  · obtain ⟨o', ho'⟩ := live x hx
    exact (R3.mu p hp).2.1 o' (.inr ⟨by rw [e]; exact hx, by rw [e]; exact ho'⟩)

inductive ForJ (C : Cx) (L : Lx) (A : Around) (s₀ : Shared) (B F : Fz) (t : Expr) (F0 : Fz) (ws : List WV) (I : Addr) (fp wr : List Addr) (St : Nat → Heap → Prop) (J : Nat → Sg → Mu → Prop) (n : Nat) (s' : Shared) : Prop
  | mk (i : Nat) (F' : Fz) (σ' : Sg) (μ' : Mu) (e : n = ws.length + 1 - i) (hi : i ≤ ws.length) (b : Btw C L A s₀ B F t F0 ws I fp wr St i F' σ' μ' s') (j : J i σ' μ')
theorem StA.for {t e : Expr} {b : List Stmt} {pos : Pos} {Q : AF → Sg → Mu → Prop}
    (h : ItA C L t e σ μ (KFor C L t b Q))
    (hs : ∀ x, foldedSetIterable e L.env x = pure x := by intro _; rfl) : StA C L (.For t e b [] pos) σ μ Q := fun A s₀ B F s hr hR _ => by
  refine wpAny_For (wpAny_mono (h A s₀ B F s hr hR) (fun x s1 h1 => wpAny_mono h1 (fun it s2 h2 => ?_) fun _ _ x => x) fun _ _ x => x) hs
  obtain ⟨F', ws, σ', μ', I, fp, wr, St, F0, rfl, n1, R1, IT, hst, hf0, hwr, hfp, J, hJ0, turn, fin⟩ := h2
  refine codeAny_forLoop_any (ForJ C L A s₀ B F t F0 ws I fp wr St J) ?_ (ws.length + 1)
    ⟨0, F', σ', μ', rfl, Nat.zero_le _, ⟨n1, R1, hst, hf0, hwr, hfp⟩, hJ0⟩
  rintro n s' ⟨i, F', σ', μ', rfl, hi, bt, hJ⟩
  cases hw : ws[i]? with
  | none =>
    have e : i = ws.length := by have := List.getElem?_eq_none_iff.mp hw; omega
    subst e
    refine wpAny_mono (IT.done s' _ bt.st fun h' tk hk => ?_) (fun _ _ x => x) (fun _ _ x => x.elim)
    have R2 := (bt.rel.foreign (F' := F') (tk := tk) hk (fun x hx => ⟨(bt.wr x hx).1, (bt.wr x hx).2, bt.fp x (IT.sub x hx)⟩) (Fz.le.refl _) (fun b o e => hk b o (fun hb => (bt.wr b hb).2 o e) (bt.rel.keepF b o e)) (fun _ _ x => .inl x)).1
    exact wpAny_execs_nil ⟨F', .next, σ', μ', bt.nx, R2, trivial, fin _ _ hJ⟩
  | some w =>
    have hlt : i < ws.length := (List.getElem?_eq_some_iff.mp hw).1
    have key : wpAny (model C.p C.w) A (pyNext (.ref I)) (fun r s1 => ∃ V, r = some V ∧ wpAny (model C.p C.w) A (letOwnedTupleGo t (.ref I) V) (fun _ s2 =>
        wpAny (model C.p C.w) A (assign t L.env V) (fun _ s₂ => wpAny (model C.p C.w) A (execs b L.env) (fun f s₃ => match f with
          | .next => ∃ m, m < ws.length + 1 - i ∧ ForJ C L A s₀ B F t F0 ws I fp wr St J m s₃
          | .cont => ∃ m, m < ws.length + 1 - i ∧ ForJ C L A s₀ B F t F0 ws I fp wr St J m s₃
          | .brk => Pst C L s₀ B F FlOk Q .next s₃
          | .ret v => Pst C L s₀ B F FlOk Q (.ret v) s₃) (fun _ _ => False) s₂) (fun _ _ => False) s2) (fun _ _ => False) s1) (fun _ _ => False) s' := by
      refine bt.step IT hw fun V s1 F1 B1 hB hF1 R1 hW back => ?_
      refine wp_then (turn i w σ' μ' hw hJ V) hr R1 hW fun _ s3 F3 _ σ3 μ3 n3 R3 _ q3 => wp_then q3 hr R3 trivial fun f s4 F4 f' σ4 μ4 n4 R4 o4 q4 => ?_
      have bt' := back F4 σ4 μ4 s4 (n3.trans n4) R4
      cases f <;> cases f' <;> first
        | exact o4.elim
        | exact ⟨ws.length + 1 - (i + 1), by omega, i + 1, F4, σ4, μ4, rfl, hlt, bt', q4⟩
        | exact ⟨F4, .next, σ4, μ4, bt'.nx, bt'.rel, trivial, q4⟩
        | exact ⟨F4, _, σ4, μ4, bt'.nx, bt'.rel, o4, q4⟩
    refine wpAny_mono key (fun r s1 hh => ?_) (fun _ _ x => x.elim)
    obtain ⟨V, e, hv⟩ := hh
    subst e
    refine wpAny_mono hv (fun _ s2 h2 => wpAny_mono h2 (fun _ s3 h3 => wpAny_mono h3 (fun f s4 h4 => ?_) fun _ _ x => x.elim) fun _ _ x => x.elim) fun _ _ x => x.elim
    cases f <;> exact h4
end
end Mine
end
section
open PySem PySem.W PySem.Calls PyProof.Rows
set_option linter.unusedVariables false
namespace Mine

theorem lookup_mem {names : Nm} (hn : (names.map (·.1)).Nodup) {x : Str} {k : NameKind} (h : (x, k) ∈ names) : names.lookup x = some k := by
  induction names with
  | nil => cases h
  | cons p r ih =>
    obtain ⟨y, k'⟩ := p
    rw [List.map_cons, List.nodup_cons] at hn
    rw [List.lookup_cons]
    rcases List.mem_cons.mp h with e | h'
    · cases e; simp
    · have hne : (x == y) = false := by
        rw [beq_eq_false_iff_ne]; intro e
        exact hn.1 (List.mem_map.mpr ⟨(x, k), h', e⟩)
      rw [hne]; exact ih hn.2 h'

noncomputable def relN (names : Nm) (env : Env) : Nm := names.map fun (n, k) => if (k == .free && env.scope.kind == .function && env.kindOf n == some .cell) then (n, .cell) else (n, k)
theorem relN_names (names : Nm) (env : Env) : (relN names env).map (·.1) = names.map (·.1) := by
  unfold relN
  rw [List.map_map]
  apply List.map_congr_left
  rintro ⟨n, k⟩ _
  dsimp only [Function.comp]
  split <;> rfl
theorem relN_lookup {names : Nm} {env : Env} (hn : (names.map (·.1)).Nodup) {x : Str} {k : NameKind} (h : (x, k) ∈ names) :
    (k ≠ .free → (relN names env).lookup x = some k) ∧ (k = .free → (relN names env).lookup x = some .cell ∨ (relN names env).lookup x = some .free) := by
  have hn' : ((relN names env).map (·.1)).Nodup := by rw [relN_names]; exact hn
  have hm : (if (k == .free && env.scope.kind == .function && env.kindOf x == some .cell) then (x, NameKind.cell) else (x, k)) ∈ relN names env := List.mem_map.mpr ⟨(x, k), h, rfl⟩
  constructor
  · intro hk
    have : (k == NameKind.free) = false := by simpa using hk
    rw [if_neg (by simp [this])] at hm
    exact lookup_mem hn' hm
  · rintro rfl
    split at hm
    · exact .inl (lookup_mem hn' hm)
    · exact .inr (lookup_mem hn' hm)

/-- what a comprehension's scope must be -/
noncomputable def compScope (names : Nm) : Bool := decide (names.map (·.1)).Nodup && names.all fun p => p.2 != .cell && !(p.1 == ("__debug__" : Str)) && !(p.1 == ("__classdict__" : Str))

theorem compEnv_ok {L : Lx} {scope : Scope} {cl : List (Str × Addr)} {C' : Addr} (hk : scope.kind = .function) (h : compScope scope.names = true) : EnvOk scope.names (compEnvC scope cl C' L.env) := by
  simp only [compScope, Bool.and_eq_true, decide_eq_true_eq, List.all_eq_true, Bool.not_eq_true', bne_iff_ne, ne_eq] at h
  obtain ⟨hn, ha⟩ := h
  refine ⟨hk, L.ok.glob, L.ok.bi, hn, fun x hx => (relN_lookup hn hx).1 (by decide), fun x hx => absurd rfl (ha _ hx).1.1, fun x hx => ⟨(relN_lookup hn hx).2 rfl, (ha _ hx).2⟩, fun x hx => (relN_lookup hn hx).1 (by decide), fun p hp => (ha p hp).1.2⟩

theorem closure_at {env : Env} {scope : Scope} (h : ∀ x, (x, NameKind.free) ∈ scope.names → ∃ c, env.cells.lookup x = some c) :
    ∃ cl, closureFor scope env = pure cl ∧ (∀ x c, cl.lookup x = some c → env.cells.lookup x = some c) ∧ ∀ x, (x, NameKind.free) ∈ scope.names → ∃ c, cl.lookup x = some c := by
  unfold closureFor
  have key : ∀ (names : Nm) (acc : List (Str × Addr)), (∀ x, (x, NameKind.free) ∈ names → ∃ c, env.cells.lookup x = some c) → (∀ x c, acc.lookup x = some c → env.cells.lookup x = some c) →
      ∃ cl, (forIn names acc fun (p : Str × NameKind) (r : List (Str × Addr)) => (if (p.2 == NameKind.free) = true then (do let a ← cellOf env p.1; pure (ForInStep.yield ((p.1, a) :: r))) else pure (ForInStep.yield r) : Sem (ForInStep (List (Str × Addr))))) = pure cl ∧
        (∀ x c, cl.lookup x = some c → env.cells.lookup x = some c) ∧ (∀ x, (∃ c, acc.lookup x = some c) ∨ (x, NameKind.free) ∈ names → ∃ c, cl.lookup x = some c) := by
    intro names
    induction names with
    | nil => intro acc _ ha; exact ⟨acc, by simp, ha, fun x q => q.elim id fun q => by cases q⟩
    | cons p r ih =>
      intro acc hn ha
      obtain ⟨x, k⟩ := p
      rw [List.forIn_cons]
      by_cases hk : k = .free
      · subst hk
        obtain ⟨c, hc⟩ := hn x (.head _)
        obtain ⟨cl, h1, h2, h3⟩ := ih ((x, c) :: acc) (fun y hy => hn y (.tail _ hy)) (fun y c' hy => by
          rw [List.lookup_cons] at hy
          cases e : y == x with
          | true => rw [e] at hy; cases hy; rw [eq_of_beq e]; exact hc
          | false => rw [e] at hy; exact ha y c' hy)
        refine ⟨cl, ?_, h2, fun y q => h3 y ?_⟩
        · unfold cellOf
          simp only [beq_self_eq_true, if_true, hc]
          exact h1
        · rcases q with ⟨c', hc'⟩ | q
          · by_cases e : y = x
            · subst e; exact .inl ⟨c, by simp⟩
            · exact .inl ⟨c', by rw [List.lookup_cons, beq_eq_false_iff_ne.mpr e]; exact hc'⟩
          · rcases List.mem_cons.mp q with e | q
            · cases e; exact .inl ⟨c, by simp⟩
            · exact .inr q
      · obtain ⟨cl, h1, h2, h3⟩ := ih acc (fun y hy => hn y (.tail _ hy)) ha
        refine ⟨cl, ?_, h2, fun y q => h3 y (q.imp id fun q => ?_)⟩
        · have : (k == NameKind.free) = false := by simpa using hk
          simp only [this, Bool.false_eq_true, if_false]
          exact h1
        · rcases List.mem_cons.mp q with e | q
          · cases e; exact absurd rfl hk
          · exact q
  obtain ⟨cl, h1, h2, h3⟩ := key scope.names [] h (fun x c e => by simp at e)
  refine ⟨cl, ?_, h2, fun x hx => h3 x (.inr hx)⟩
  show (forIn scope.names [] (fun (p : Str × NameKind) (r : List (Str × Addr)) => (if (p.2 == NameKind.free) = true then (do let a ← cellOf env p.1; pure (ForInStep.yield ((p.1, a) :: r))) else pure (ForInStep.yield r) : Sem (ForInStep (List (Str × Addr))))) >>= fun s => pure s) = pure cl
  rw [h1]
  rfl

/-- the captured names -/
noncomputable def CapOk (nm : Nm) (σ : Sg) : Nm → Sg → Prop
  | (x, k) :: ns, some w :: σc => (k = .free ∧ ∃ i : Nat, nm[i]? = some (x, .cell) ∧ σ[i]? = some (some w)) ∧ CapOk nm σ ns σc
  | _ :: ns, none :: σc => CapOk nm σ ns σc
  | _, [] => True
  | [], _ :: _ => False
theorem CapOk.get {nm : Nm} {σ : Sg} : ∀ {ns : Nm} {σc : Sg}, CapOk nm σ ns σc → ∀ (j : Nat) (x : Str) (k : NameKind) (w : WV), ns[j]? = some (x, k) → σc[j]? = some (some w) → k = .free ∧ ∃ i : Nat, nm[i]? = some (x, .cell) ∧ σ[i]? = some (some w)
  | _, [], _, j, x, k, w, _, h2 => by simp at h2
  | [], _ :: _, h, _, _, _, _, _, _ => h.elim
  | (y, k') :: ns, some w' :: σc, h, 0, x, k, w, h1, h2 => by simp at h1 h2; obtain ⟨rfl, rfl⟩ := h1; subst h2; exact h.1
  | (y, k') :: ns, none :: σc, h, 0, x, k, w, h1, h2 => by simp at h2
  | (y, k') :: ns, some w' :: σc, h, j + 1, x, k, w, h1, h2 => CapOk.get h.2 j x k w (by simpa using h1) (by simpa using h2)
  | (y, k') :: ns, none :: σc, h, j + 1, x, k, w, h1, h2 => CapOk.get (ns := ns) (σc := σc) h j x k w (by simpa using h1) (by simpa using h2)

noncomputable abbrev TsA (C : Cx) (L : Lx) (ifs : List Expr) (σ : Sg) (μ : Mu) (Q : Bool → Sg → Mu → Prop) : Prop :=
  JdW C L (fun _ => True) (forIn ifs true fun c r => if r = true then do let ok ← isTrue c L.env (eval c L.env); pure (ForInStep.yield ok) else pure (ForInStep.yield r)) Eq2 σ μ Q
theorem TsA.nil {C : Cx} {L : Lx} {σ : Sg} {μ : Mu} {Q : Bool → Sg → Mu → Prop} (h : Q true σ μ) : TsA C L [] σ μ Q :=
  fun A s₀ B F s hr hR _ => wpAny_tests_nil ⟨F, true, σ, μ, Nx.refl B F, hR, rfl, h⟩
theorem TsA.one {C : Cx} {L : Lx} {σ : Sg} {μ : Mu} {e : Expr} {Q : Bool → Sg → Mu → Prop} (h : TrA C L e σ μ Q) : TsA C L [e] σ μ Q :=
  fun A s₀ B F s hr hR hP => wpAny_tests_one (h A s₀ B F s hr hR hP)

theorem Itr.with {C : Cx} {A : Around} {t : Expr} {F0 : Fz} {ws : List WV} {I : Addr} {fp wr : List Addr} {St : Nat → Heap → Prop} (IT : Itr C A t F0 ws I fp wr St) {D : Addr} {oD : Obj} (hD : D ∉ fp) :
    Itr C A t F0 ws I (D :: fp) (D :: wr) (fun i h => St i h ∧ h.get? D = some oD) where
  sub := fun b hb => by
    rcases List.mem_cons.mp hb with rfl | hb
    · exact .head _
    · exact .tail _ (IT.sub b hb)
  frame := fun i h h' hs hk => ⟨IT.frame i h h' hs.1 fun b hb o e => hk b (.tail _ hb) o e, hk D (.head _) oD hs.2⟩
  live := fun i h hs b hb => by
    rcases List.mem_cons.mp hb with rfl | hb
    · exact ⟨_, hs.2⟩
    · exact IT.live i h hs.1 b hb
  step := fun i w s F K hw hs hF hsub hoff hK => IT.step i w s F K hw hs.1 hF hsub (fun b hb => hoff b (.tail _ hb)) fun V h' tk F' hst hk hF' hs' hn hW =>
    hK V h' tk F' ⟨hst, hk D oD (fun hb => hD (IT.sub D hb)) hs.2⟩ (fun b o hb e => hk b o (fun q => hb (.tail _ q)) e) hF' hs' hn hW
  done := fun s K hs hK => IT.done s K hs.1 fun h' tk hk => hK h' tk fun b o hb e => hk b o (fun q => hb (.tail _ q)) e
  self := fun i s K hs hK => IT.self i s K hs.1 hK

theorem take_filter (out : List (Option PyData)) (i : Nat) (x : Option PyData) (h : out[i]? = some x) : (out.take (i + 1)).filterMap id = (out.take i).filterMap id ++ x.toList := by
  rw [List.take_add_one, h, List.filterMap_append]
  cases x <;> simp

noncomputable abbrev KElB (C : Cx) (L : Lx) (elt : Expr) (σc : Sg) (μ1 : Mu) (o : Option (Option PyData)) : Bool → Sg → Mu → Prop := fun b σ3 μ3 =>
  if b then EvA C L elt σ3 μ3 (fun w4 σ4 μ4 => ∃ d, w4 = .val d ∧ μ4 = μ1 ∧ Sub σc σ4 ∧ o = some (some d)) else (μ3 = μ1 ∧ Sub σc σ3 ∧ o = some none)
noncomputable abbrev KEl (C : Cx) (L : Lx) (elt : Expr) (ifs : List Expr) (σc : Sg) (μ1 : Mu) (o : Option (Option PyData)) : Sg → Mu → Prop := fun σ2 μ2 => TsA C L ifs σ2 μ2 (KElB C L elt σc μ1 o)

inductive CompJ (C : Cx) (L' : Lx) (A : Around) (s₀ : Shared) (B1 F2 : Fz) (t : Expr) (F0 : Fz) (ws : List WV) (I : Addr) (fp wr : List Addr) (St : Nat → Heap → Prop) (σc : Sg) (μ1 : Mu) (D : Addr) (out : List (Option PyData)) (n : Nat) (s' : Shared) : Prop
  | mk (i : Nat) (F' : Fz) (ys : Array Value) (e : n = ws.length + 1 - i) (hi : i ≤ ws.length) (b : Btw C L' A s₀ B1 F2 t F0 ws I fp wr St i F' σc μ1 s') (ml : ML s'.heap D ys) (d : DFs F' ys.toList ((out.take i).filterMap id)) (off : F'.off D)
theorem wp_comp {C : Cx} {L : Lx} {A : Around} {s₀ : Shared} {B F F2 F0 : Fz} {s2 : Shared} {σ1 : Sg} {μ1 : Mu} {ws : List WV} {I : Addr} {fp wr : List Addr} {St : Nat → Heap → Prop} {t elt iter : Expr} {ifs : List Expr} {scope : Scope} {pos : Pos}
    {cl : List (Str × Addr)} {σc : Sg} {out : List (Option PyData)} {RR : Value → Addr → Result → Shared → Prop}
    (hr : Room L.k A) (n1 : Nx B F F2) (R2 : Rel C.h₀ s₀ B F2 L.nm L.env σ1 μ1 s2) (IT : Itr C A t F0 ws I fp wr St) (hst : St 0 s2.heap) (hf0 : F0.le F2) (hwr : ∀ b ∈ wr, B.off b ∧ F2.off b) (hfp : ∀ b ∈ fp, Foreign L.env μ1 b)
    (hk : scope.kind = .function) (hsc : compScope scope.names = true)
    (hcl : ∀ x c, cl.lookup x = some c → L.env.cells.lookup x = some c) (hcl2 : ∀ x, (x, NameKind.free) ∈ scope.names → ∃ c, cl.lookup x = some c) (hcap : CapOk L.nm σ1 scope.names σc)
    (hlen : out.length = ws.length) (hsz : out.length ≤ sizeLine)
    (elem : ∀ (env' : Env) (ok' : EnvOk scope.names env') (i : Nat) (w : WV), ws[i]? = some w → AgA C ⟨scope.names, env', L.k, ok'⟩ t w σc μ1 (KEl C ⟨scope.names, env', L.k, ok'⟩ elt ifs σc μ1 out[i]?))
    (hRR : ∀ D C' F' s', Nx B F F' → Rel C.h₀ s₀ B F' L.nm L.env σ1 ((D, out.filterMap id) :: μ1) s' → (∃ m, s'.heap.Ns C' m) → B.off C' → F'.off C' → Foreign L.env ((D, out.filterMap id) :: μ1) C' → RR (.ref D) C' (.ok .next) s') :
    wpAny (model C.p C.w) A (newList []) (fun acc s₃ => wpAny (model C.p C.w) A (newFunctionEnv scope L.env.globals cl [] L.env.qual none .none (some L.env)) (fun cenv s₄ =>
      codeAny (model C.p C.w) A (.compStart (.ListComp elt [⟨t, iter, ifs, 0⟩] scope pos) 0 (.ref I) acc { cenv with scope := relabel scope L.env }) (RR acc cenv.locals) s₄) (fun _ _ => False) s₃) (fun _ _ => False) s2 := by
  have hsc' := hsc
  simp only [compScope, Bool.and_eq_true, decide_eq_true_eq, List.all_eq_true, Bool.not_eq_true', bne_iff_ne, ne_eq] at hsc'
  refine wpAny_newObj_type (wpAny_newFunctionEnv (fun p hp => (hsc'.2 p hp).1.1) (by intro y hy; simp at hy) (fun h₁ hns₁ hsb₁ => ?_) hk) (by show 0 ≤ sizeLine; exact Nat.zero_le _)
  dsimp only at hns₁ hsb₁ ⊢
  generalize hH2 : s2.heap.push { cls := .type "list", dict := none, data := .seq ([] : List Value).toArray } = H2 at hns₁ hsb₁ ⊢
  have hC : H2.objs.size = s2.heap.objs.size + 1 := by rw [← hH2, Heap.size_push]
  generalize hD0 : s2.heap.objs.size = D at hC ⊢
  generalize hC0 : H2.objs.size = C' at hns₁ hsb₁ hC ⊢
  have old : ∀ b o, s2.heap.get? b = some o → h₁.get? b = some o := fun b o e => by
    have hlt : @LT.lt Nat _ b s2.heap.objs.size := Heap.lt_size e
    exact hsb₁.extBut b o (by show @Ne Nat b C'; omega) (Heap.get?_push_of_some _ (hH2 ▸ Heap.get?_push_of_some _ e))
  have hDC : D ≠ C' := by show @Ne Nat D C'; omega
  have hDnew : h₁.get? D = some { cls := .type "list", data := .seq #[] } := hsb₁.extBut _ _ hDC (Heap.get?_push_of_some _ (by rw [← hH2, ← hD0]; exact Heap.get?_push_size _ rfl))
  have hCle : @LE.le Nat _ D C' := by omega
  -- what is kept of the state before
  let B1 : Fz := fun b o => B b o ∨ (s2.heap.get? b = some o ∧ b ∉ wr ∧ ∀ p ∈ μ1, p.1 ≠ b)
  have notnew : ∀ a, D ≤ a → B1.off a ∧ F2.off a ∧ ∀ p ∈ μ1, p.1 ≠ a := fun a ha => by
    have ha' : @LE.le Nat _ s2.heap.objs.size a := by rw [hD0]; exact ha
    obtain ⟨f1, f2, f3⟩ := fresh_off R2 (a := a) ha'
    refine ⟨fun o x => x.elim (f1 o) fun q => ?_, f2, f3⟩
    have : @LT.lt Nat _ a s2.heap.objs.size := Heap.lt_size q.1
    omega
  have fpl : ∀ b ∈ fp, b < D := fun b hb => by
    obtain ⟨o, ho⟩ := IT.live 0 _ hst b hb
    have h1 : @LT.lt Nat _ b s2.heap.objs.size := Heap.lt_size ho
    show @LT.lt Nat _ b D
    omega
  have ok' : EnvOk scope.names (compEnvC scope cl C' L.env) := compEnv_ok hk hsc
  let L' : Lx := ⟨scope.names, compEnvC scope cl C' L.env, L.k, ok'⟩
  have hBB1 : B.le B1 := fun _ _ x => .inl x
  have cellFact : ∀ x c, cl.lookup x = some c → ∃ v, s2.heap.IsCell c v ∧ c ∉ wr ∧ ∀ p ∈ μ1, p.1 ≠ c := fun x c hc => by
    obtain ⟨v, hv⟩ := R2.cells x c (hcl x c hc)
    refine ⟨v, hv, fun hb => (hfp c (IT.sub c hb)).2.2 x c (hcl x c hc) rfl, fun p hp e => ?_⟩
    obtain ⟨⟨vs, hl, _⟩, _⟩ := R2.mu p hp
    exact cell_list_ne hv hl.isList e
  -- the inner state
  have R4 : Rel C.h₀ s₀ B1 F2 L'.nm L'.env σc μ1 { s2 with heap := h₁, toks := s2.toks + ([] : List (Str × Value)).length } := by
    obtain ⟨hh, tk0, e0⟩ := R2.same
    refine ⟨⟨h₁, _, by rw [e0]⟩, R2.baseF, fun b o x => x.elim (fun q => old b o (R2.keepB b o q)) fun q => old b o q.1, fun b o x => old b o (R2.keepF b o x), ⟨_, hns₁⟩, (notnew C' hCle).1, (notnew C' hCle).2.1, ?_, ?_, ?_, ?_, ?_, ?_, R2.nodup⟩
    · intro x c hc
      obtain ⟨v, hv, _⟩ := cellFact x c hc
      exact ⟨v, hv.keeps old⟩
    · intro x c hc; exact R2.cellsX x c (hcl x c hc)
    · intro hf; cases hf
    · intro hf; cases hf
    · intro j x k w hx hw
      obtain ⟨rfl, i, hi, hwi⟩ := hcap.get j x k w hx hw
      obtain ⟨V, ⟨c, hc, hcv⟩, hW⟩ := R2.vars i x _ w hi hwi
      obtain ⟨c', hc'⟩ := hcl2 x (List.mem_of_getElem? hx)
      have : c' = c := by have := hcl x c' hc'; rw [hc] at this; exact (Option.some.inj this).symm
      subst this
      exact ⟨V, ⟨c', hc', hcv.keeps old⟩, hW⟩
    · intro p hp
      obtain ⟨⟨vs, ⟨o, ho, hr⟩, hD⟩, hB, hF⟩ := R2.mu p hp
      exact ⟨⟨vs, ⟨o, old _ _ ho, hr⟩, hD⟩, fun o' x => x.elim (hB o') fun q => q.2.2 p hp rfl, hF⟩
  have hwr1 : ∀ b ∈ wr, B1.off b ∧ F2.off b := fun b hb => ⟨fun o x => x.elim ((hwr b hb).1 o) fun q => q.2.1 hb, (hwr b hb).2⟩
  have hfp1 : ∀ b ∈ fp, Foreign L'.env μ1 b := fun b hb => ⟨(hfp b hb).1, fun e => by
      have h2 : @LT.lt Nat _ b D := fpl b hb
      have h3 : @Eq Nat b C' := e
      omega, fun x c hc => (hfp b hb).2.2 x c (hcl x c hc)⟩
  have loop : ∀ s4 : Shared, s4 = { s2 with heap := h₁, toks := s2.toks + ([] : List (Str × Value)).length } →
      codeAny (model C.p C.w) A (.compLoop (.ListComp elt [⟨t, iter, ifs, 0⟩] scope pos) 0 (.ref I) (.ref D) (compEnvC scope cl C' L.env)) (RR (.ref D) C') s4 := by
    rintro s4 rfl
    refine codeAny_loop rfl (CompJ C L' A s₀ B1 F2 t F0 ws I fp wr St σc μ1 D out) ?_ (ws.length + 1)
      ⟨0, F2, #[], rfl, Nat.zero_le _, ⟨Nx.refl _ _, R4, IT.frame _ _ _ hst fun b _ o e => old b o e, hf0, hwr1, hfp1⟩, ⟨_, hDnew, _, rfl⟩, by simpa using DFs.nil, (notnew D (Nat.le_refl _)).2.1⟩
    rintro n s' ⟨i, F', ys, rfl, hi, bt, hlD, hdD, hFD⟩
    show wpAny _ A ((compTurn (.ListComp elt [⟨t, iter, ifs, 0⟩] scope pos) 0 (.ref I) (.ref D) (compEnvC scope cl C' L.env)).onRaise (fun x => do noteFrame x (compEnvC scope cl C' L.env); theTreesLotGoes x)) _ _ s'
    refine wpAny_noted ?_
    rw [compTurn_list]
    refine wpAny_bind (wpAny_standAt (wpAny_bind ?_))
    have hDfor : Foreign L'.env μ1 D := ⟨(notnew D (Nat.le_refl _)).2.2, hDC, fun x c hc e => by
      obtain ⟨v, hv, _⟩ := cellFact x c hc
      have h1 : @LT.lt Nat _ c s2.heap.objs.size := hv.lt
      have h2 : @Eq Nat c D := e
      omega⟩
    have hDfp : D ∉ fp := fun hb => Nat.lt_irrefl _ (fpl D hb)
    cases hw : ws[i]? with
    | none =>
      have e : i = ws.length := by have := List.getElem?_eq_none_iff.mp hw; omega
      subst e
      refine wpAny_mono (IT.done s' _ bt.st fun h' tk hk => ?_) (fun _ _ x => x) (fun _ _ x => x.elim)
      have R5 := (bt.rel.foreign (F' := F') (tk := tk) hk (fun x hx => ⟨(bt.wr x hx).1, (bt.wr x hx).2, bt.fp x (IT.sub x hx)⟩) (Fz.le.refl _) (fun b o e => hk b o (fun hb => (bt.wr b hb).2 o e) (bt.rel.keepF b o e)) (fun _ _ x => .inl x)).1
      obtain ⟨oD, hoD, hrD⟩ := hlD
      have hl5 : ML h' D ys := ⟨oD, hk D oD (fun hb => hDfp (IT.sub D hb)) hoD, hrD⟩
      rw [← hlen, List.take_length] at hdD
      -- the outer state again
      have offF : ∀ b o, s2.heap.get? b = some o → b ∉ wr → (∀ p ∈ μ1, p.1 ≠ b) → F2.off b → F'.off b := fun b o e hb hm hf o' x => by
        rcases bt.nx.2 b o' x with q | q
        · exact hf o' q
        · exact q o (.inr ⟨e, hb, hm⟩)
      have kept : ∀ b o, s2.heap.get? b = some o → b ∉ wr → (∀ p ∈ μ1, p.1 ≠ b) → h'.get? b = some o := fun b o e hb hm => R5.keepB b o (.inr ⟨e, hb, hm⟩)
      obtain ⟨m2, hm2⟩ := R2.ns
      obtain ⟨oL, es, ep, hoL, hdL, hrL⟩ := id hm2
      have hLw : L.env.locals ∉ wr := fun hb => (hfp _ (IT.sub _ hb)).2.1 rfl
      have hLm : ∀ p ∈ μ1, p.1 ≠ L.env.locals := fun p hp => by
        obtain ⟨⟨vs, hl, _⟩, _⟩ := R2.mu p hp
        exact ns_get_ne hm2 hl.isList
      have cellK : ∀ x c v, L.env.cells.lookup x = some c → s2.heap.IsCell c v → h'.IsCell c v ∧ F'.off c := fun x c v hc hv => by
        have a1 : c ∉ wr := fun hb => (hfp c (IT.sub c hb)).2.2 x c hc rfl
        have a2 : ∀ p ∈ μ1, p.1 ≠ c := fun p hp => by
          obtain ⟨⟨vs, hl, _⟩, _⟩ := R2.mu p hp
          exact cell_list_ne hv hl.isList
        obtain ⟨o, ho, hd⟩ := hv
        have hf : F2.off c := R2.cellsX x c hc
        exact ⟨⟨o, kept c o ho a1 a2, hd⟩, offF c o ho a1 a2 hf⟩
      have R6 : Rel C.h₀ s₀ B F' L.nm L.env σ1 μ1 { s' with heap := h', toks := tk } := by
        refine ⟨R5.same, R5.baseF, fun b o x => R5.keepB b o (.inl x), R5.keepF, ⟨m2, oL, es, ep, kept _ _ hoL hLw hLm, hdL, hrL⟩, R2.nsB, offF _ _ hoL hLw hLm R2.nsF, ?_, ?_, ?_, R2.apart, ?_, ?_, R2.nodup⟩
        · intro x c hc; obtain ⟨v, hv⟩ := R2.cells x c hc; exact ⟨v, (cellK x c v hc hv).1⟩
        · intro x c hc; obtain ⟨v, hv⟩ := R2.cells x c hc; exact (cellK x c v hc hv).2
        · intro hf x c hc; obtain ⟨v, hv⟩ := R2.cells x c hc; exact R2.cellsF hf x c hc
        · intro j x k w hx hw
          obtain ⟨V, hV, hW⟩ := R2.vars j x k w hx hw
          refine ⟨V, hV.but (fun m' hm' => ?_) (fun c v hx hc => (cellK _ c v hx hc).1), hW.mono bt.nx.1⟩
          obtain ⟨o, es', ep', ho', r'⟩ := hm'
          exact ⟨o, es', ep', kept _ _ ho' hLw hLm, r'⟩
        · intro p hp
          exact ⟨(R5.mu p hp).1, (R2.mu p hp).2.1, (R5.mu p hp).2.2⟩
      have hBD : B.off D := fun o x => (notnew D (Nat.le_refl _)).1 o (.inl x)
      have R7 := R6.newList hl5 hdD hBD hFD (notnew D (Nat.le_refl _)).2.2
      have nx' : Nx B F F' := n1.trans (bt.nx.anti hBB1)
      obtain ⟨mC, hmC⟩ := R5.ns
      refine wpAny_pure (hRR D C' F' _ nx' R7 ⟨mC, hmC⟩ (fun o x => (notnew C' hCle).1 o (.inl x)) R5.nsF ⟨?_, ?_, ?_⟩)
      · intro p hp
        rcases List.mem_cons.mp hp with rfl | hp
        · exact hDC
        · exact (notnew C' hCle).2.2 p hp
      · intro e
        have h1 : @LT.lt Nat _ L.env.locals s2.heap.objs.size := Heap.lt_size hoL
        have h2 : @Eq Nat C' L.env.locals := e
        omega
      · intro x c hc e
        obtain ⟨v, hv⟩ := R2.cells x c hc
        have h1 : @LT.lt Nat _ c s2.heap.objs.size := hv.lt
        have h2 : @Eq Nat c C' := e
        omega
    | some w =>
      have hlt : i < ws.length := (List.getElem?_eq_some_iff.mp hw).1
      obtain ⟨oD, hoD, hrD⟩ := id hlD
      have IT' := IT.with (oD := oD) hDfp
      have bt' : Btw C L' A s₀ B1 F2 t F0 ws I (D :: fp) (D :: wr) (fun i h => St i h ∧ h.get? D = some oD) i F' σc μ1 s' :=
        ⟨bt.nx, bt.rel, ⟨bt.st, hoD⟩, bt.f0, fun b hb => by
          rcases List.mem_cons.mp hb with rfl | hb
          · exact ⟨(notnew b (Nat.le_refl _)).1, hFD⟩
          · exact bt.wr b hb, fun b hb => by
          rcases List.mem_cons.mp hb with rfl | hb
          · exact hDfor
          · exact bt.fp b hb⟩
      have back2 : ∀ F4 s4 ys4, Btw C L' A s₀ B1 F2 t F0 ws I (D :: fp) (D :: wr) (fun i h => St i h ∧ h.get? D = some oD) (i + 1) F4 σc μ1 s4 → ML s4.heap D ys4 → DFs F4 ys4.toList ((out.take (i + 1)).filterMap id) →
          ∃ m, m < ws.length + 1 - i ∧ CompJ C L' A s₀ B1 F2 t F0 ws I fp wr St σc μ1 D out m s4 := fun F4 s4 ys4 b4 hl4 hd4 =>
        ⟨ws.length + 1 - (i + 1), by omega, i + 1, F4, ys4, rfl, hlt, ⟨b4.nx, b4.rel, b4.st.1, b4.f0, fun b hb => b4.wr b (.tail _ hb), fun b hb => b4.fp b (.tail _ hb)⟩, hl4, hd4, (b4.wr D (.head _)).2⟩
      refine wpAny_mono (bt'.step IT' hw (K := fun V s1 => wpAny (model C.p C.w) A (assign t L'.env V) (fun _ s₂ =>
          wpAny (model C.p C.w) A (forIn ifs true fun c r => if r = true then do let ok ← isTrue c L'.env (eval c L'.env); pure (ForInStep.yield ok) else pure (ForInStep.yield r)) (fun ok s₃ =>
            if ok = true then wpAny (model C.p C.w) A (eval elt L'.env) (fun x s₄ =>
              wpAny (model C.p C.w) A (call (.builtin "list.append") [.ref D, x]) (fun _ s₅ => ∃ m, m < ws.length + 1 - i ∧ CompJ C L' A s₀ B1 F2 t F0 ws I fp wr St σc μ1 D out m s₅) (fun _ _ => False) s₄) (fun _ _ => False) s₃
            else ∃ m, m < ws.length + 1 - i ∧ CompJ C L' A s₀ B1 F2 t F0 ws I fp wr St σc μ1 D out m s₃) (fun _ _ => False) s₂) (fun _ _ => False) s1) fun V s1 F1 B2 hB2 hF1 R1' hW back => ?_) (fun r s1 hh => ?_) (fun _ _ x => x.elim)
      · refine wp_then (elem L'.env ok' i w hw V) hr R1' hW fun _ s3 F3 _ σ3 μ3 n3 R3 _ q3 => wp_then q3 hr R3 trivial fun ok s4 F4 ok2 σ4 μ4 n4 R4i o4 q4 => ?_
        have e : ok = ok2 := o4
        subst e
        cases ok with
        | false =>
          obtain ⟨rfl, hsub, ho⟩ := q4
          have b4 := back F4 _ _ s4 (n3.trans n4) R4i
          have b4' : Btw C L' A s₀ B1 F2 t F0 ws I (D :: fp) (D :: wr) (fun i h => St i h ∧ h.get? D = some oD) (i + 1) F4 σc μ4 s4 := ⟨b4.nx, b4.rel.weak hsub, b4.st, b4.f0, b4.wr, b4.fp⟩
          refine back2 F4 s4 ys b4' ⟨oD, b4.st.2, hrD⟩ ?_
          rw [take_filter out i none ho]
          simpa using hdD.mono (hF1.trans (n3.trans n4).1)
        | true =>
          refine wp_then q4 hr R4i trivial fun x s5 F5 w5 σ5 μ5 n5 R5i o5 q5 => ?_
          obtain ⟨d, rfl, rfl, hsub, ho⟩ := q5
          have b5 := back F5 _ _ s5 (n3.trans (n4.trans n5)) R5i
          have hle : F'.le F5 := hF1.trans (n3.trans (n4.trans n5)).1
          have hysz : ys.size ≤ sizeLine := by
            have e1 := hdD.length
            have e2 := List.length_filterMap_le id (out.take i)
            have e3 : (out.take i).length ≤ out.length := by rw [List.length_take]; exact Nat.min_le_right _ _
            simp only [Array.length_toList] at e1
            omega
          obtain ⟨nD, hoD2⟩ := hrD
          refine wpAny_list_append_plain (hsz := hysz) ⟨nD, by have q := b5.st.2; rw [hoD2] at q; exact q⟩ fun h' hl' hs' => ?_
          have hDF := (b5.wr D (.head _)).2
          have R6 := (b5.rel.weak hsub).foreign (F' := F5) (wr := [D]) (h' := h') (tk := s5.toks) (fun b o hb e => (hs'.2 b fun q => hb (by simp [q])).trans e)
            (fun b hb => by rw [List.mem_singleton.mp hb]; exact ⟨(b5.wr D (.head _)).1, hDF, b5.fp D (.head _)⟩) (Fz.le.refl _) (fun b o e => (hs'.2 b fun q => hDF o (q ▸ e)).trans (b5.rel.keepF b o e)) (fun _ _ x => .inl x)
          refine ⟨ws.length + 1 - (i + 1), by omega, i + 1, F5, ys.push x, rfl, hlt, ⟨b5.nx, R6.1, IT.frame _ _ _ b5.st.1 fun b hb o e => (hs'.2 b fun q => hDfp (q ▸ hb)).trans e, b5.f0, fun b hb => b5.wr b (.tail _ hb), fun b hb => b5.fp b (.tail _ hb)⟩, (let ⟨n', e'⟩ := hl'; ⟨_, e', n', rfl⟩), ?_, hDF⟩
          rw [take_filter out i (some d) ho]
          simpa using (hdD.mono hle).append (DFs.one o5)
      · obtain ⟨V, e, hv⟩ := hh
        subst e
        refine wpAny_bind (wpAny_mono hv (fun _ s2 h2 => wpAny_bind (wpAny_mono h2 (fun _ s3 h3 => wpAny_bind (wpAny_mono h3 (fun ok s4 h4 => ?_) fun _ _ x => x.elim)) fun _ _ x => x.elim)) fun _ _ x => x.elim)
        cases ok with
        | false => exact wpAny_pure ⟨rfl, h4⟩
        | true => exact wpAny_bind (wpAny_bind (wpAny_mono h4 (fun x s5 h5 => wpAny_bind (wpAny_mono h5 (fun _ s6 h6 => wpAny_pure (wpAny_pure ⟨rfl, h6⟩)) fun _ _ x => x.elim)) fun _ _ x => x.elim))
  exact codeAny_compStart_list (loop _ rfl) (wpAny_mono (IT.self 0 _ _ (IT.frame _ _ _ hst fun b _ o e => old b o e) (loop _ rfl)) (fun _ _ x => x) fun _ _ x => x.elim)
end Mine
end
section
open PySem PySem.W PySem.Calls PyProof.Rows
set_option linter.unusedVariables false
namespace Mine
section
variable {C : Cx} {L : Lx} {σ : Sg} {μ : Mu}

/-- the free names are the outer cells -/
noncomputable def capNames (ns nm : Nm) : Bool := ns.all fun p => p.2 != .free || nm.contains (p.1, .cell)

theorem cap_cells {scope : Scope} (h : capNames scope.names L.nm = true) : ∀ x, (x, NameKind.free) ∈ scope.names → ∃ c, L.env.cells.lookup x = some c := fun x hx => by
  simp only [capNames, List.all_eq_true] at h
  have := h _ hx
  simp only [bne_self_eq_false, Bool.false_or, List.contains_iff_mem] at this
  exact (L.ok.cel x this).2.2

theorem scope_names {scope : Scope} (h : compScope scope.names = true) : ∀ x ∈ scope.names, x.2 = .local → scope.names.lookup x.1 = some .local := fun x hx hl => by
  simp only [compScope, Bool.and_eq_true, decide_eq_true_eq] at h
  obtain ⟨y, k⟩ := x
  simp only at hl
  subst hl
  exact lookup_mem h.1 hx

noncomputable def ElA (C : Cx) (k : Nat) (t elt : Expr) (ifs : List Expr) (names : Nm) (ws : List WV) (σc : Sg) (μ1 : Mu) (out : List (Option PyData)) : Prop :=
  ∀ (env' : Env) (ok' : EnvOk names env') (i : Nat) (w : WV), ws[i]? = some w → AgA C ⟨names, env', k, ok'⟩ t w σc μ1 (KEl C ⟨names, env', k, ok'⟩ elt ifs σc μ1 out[i]?)

inductive KComp (C : Cx) (L : Lx) (t elt : Expr) (ifs : List Expr) (names : Nm) (P : Addr → Sg → List PyData → Mu → Prop) (ws : List WV) (σ1 : Sg) (μ1 : Mu) : Prop
  | mk (σc : Sg) (out : List (Option PyData)) (cap : CapOk L.nm σ1 names σc) (len : out.length = ws.length) (z : out.length ≤ sizeLine) (el : ElA C L.k t elt ifs names ws σc μ1 out) (h : ∀ l, P l σ1 (out.filterMap id) μ1)
noncomputable abbrev PEv (Q : WV → Sg → Mu → Prop) : Addr → Sg → List PyData → Mu → Prop := fun l σ1 ds μ1 => Q (.adr l) σ1 ((l, ds) :: μ1)
noncomputable abbrev PSt (j : Nat) (Q : AF → Sg → Mu → Prop) : Addr → Sg → List PyData → Mu → Prop := fun l σ1 ds μ1 => Q .next (σ1.set j (some (.adr l))) ((l, ds) :: μ1)

theorem EvA.comp {t elt iter : Expr} {ifs : List Expr} {scope : Scope} {p : Pos} {Q : WV → Sg → Mu → Prop} (hsc : compScope scope.names = true) (hcn : capNames scope.names L.nm = true)
    (h : ItA C L t iter σ μ (KComp C L t elt ifs scope.names (PEv Q)))
    (hk : scope.kind = .function := by rfl) (hs : ∀ x, foldedSetIterable iter L.env x = pure x := by intro _; rfl) : EvA C L (.ListComp elt [⟨t, iter, ifs, 0⟩] scope p) σ μ Q :=
  fun A s₀ B F s hr hR _ => by
    obtain ⟨cl, hclos, h1, h2⟩ := closure_at (cap_cells hcn)
    rw [eval_ListComp]
    refine wpAny_comprehension_free (use := none) rfl hs hclos hk (scope_names hsc) (wpAny_mono (h A s₀ B F s hr hR) (fun x s1 hx => wpAny_mono hx (fun it s2 hit => ?_) fun _ _ x => x) fun _ _ x => x)
    obtain ⟨F2, ws, σ1, μ1, I, fp, wr, St, F0, rfl, n1, R2, IT, hst, hf0, hwr, hfp, σc, out, hcap, hlen, hsz, elem, hq⟩ := hit
    refine wp_comp (RR := fun acc C' => compPost (model C.p C.w) A _ none _ acc C') hr n1 R2 IT hst hf0 hwr hfp hk hsc h1 h2 hcap hlen hsz elem ?_
    intro D C' F' s' nx R' ⟨m, hm⟩ hB hF hFor
    refine ⟨m, hm, fun h' hs' => ⟨F', .adr D, σ1, _, nx, ?_, rfl, hq D⟩⟩
    exact (R'.foreign (wr := [C']) (tk := s'.toks) (fun b o hb e => (hs'.2 b fun q => hb (by simp [q])).trans e) (fun b hb => by rw [List.mem_singleton.mp hb]; exact ⟨hB, hF, hFor⟩) (Fz.le.refl _)
      (fun b o e => (hs'.2 b fun q => hF o (q ▸ e)).trans (R'.keepF b o e)) (fun _ _ x => .inl x)).1

theorem StA.assignC {t elt iter : Expr} {ifs : List Expr} {scope : Scope} {p np pos : Pos} {y : Str} {k : NameKind} {Q : AF → Sg → Mu → Prop} (j : Nat) (hj : L.nm[j]? = some (y, k)) (hky : k = .local ∨ k = .cell) (hsc : compScope scope.names = true) (hcn : capNames scope.names L.nm = true)
    (hsw : swapsWith (.ListComp elt [⟨t, iter, ifs, 0⟩] scope p) (some (.Name y np)) pos.line L.env = pure true)
    (h : ItA C L t iter σ μ (KComp C L t elt ifs scope.names (PSt j Q)))
    (hk : scope.kind = .function := by rfl) (hs : ∀ x, foldedSetIterable iter L.env x = pure x := by intro _; rfl) : StA C L (.Assign [.Name y np] (.ListComp elt [⟨t, iter, ifs, 0⟩] scope p) pos) σ μ Q :=
  fun A s₀ B F s hr hR _ => by
    obtain ⟨cl, hclos, h1, h2⟩ := closure_at (cap_cells hcn)
    rw [exec_Assign_Name_used _ _ _ _ hsw]
    refine wpAny_bind (wpAny_standAt (wpAny_bind ?_))
    show wpAny _ A (do let _ ← comprehension (.ListComp elt [⟨t, iter, ifs, 0⟩] scope p) scope L.env _ (newList []) false (eval iter L.env) (some (assign (.Name y np) L.env))) _ _ s
    refine wpAny_bind (wpAny_mono (wpAny_comprehension_free (use := some (assign (.Name y np) L.env)) (Q := fun _ s' => Pst C L s₀ B F FlOk Q .next s') rfl hs hclos hk (scope_names hsc)
      (wpAny_mono (h A s₀ B F s hr hR) (fun x s1 hx => wpAny_mono hx (fun it s2 hit => ?_) fun _ _ x => x) fun _ _ x => x)) (fun _ s' hq => wpAny_pure (wpAny_pure hq)) fun _ _ e => e)
    obtain ⟨F2, ws, σ1, μ1, I, fp, wr, St, F0, rfl, n1, R2, IT, hst, hf0, hwr, hfp, σc, out, hcap, hlen, hsz, elem, hq⟩ := hit
    refine wp_comp (RR := fun acc C' => compPost (model C.p C.w) A _ (some (assign (.Name y np) L.env)) _ acc C') hr n1 R2 IT hst hf0 hwr hfp hk hsc h1 h2 hcap hlen hsz elem ?_
    intro D C' F' s' nx R' ⟨m, hm⟩ hB hF hFor
    show wpAny _ A (assign (.Name y np) L.env (.ref D)) _ _ s'
    have RM := R'.moreB (fp := [C']) (fun b hb => by rw [List.mem_singleton.mp hb]; exact hFor)
    obtain ⟨oC, es, ep, hoC, rC⟩ := id hm
    refine wpAny_assign_Name (wp_store (w := .adr D) RM hj hky rfl fun s'' R'' => ?_)
    refine ⟨m, ⟨oC, es, ep, R''.keepB C' oC (.inr ⟨by simp, hoC⟩), rC⟩, fun h' hs' => ?_⟩
    have R3 := R''.antiB (B' := B) (fun _ _ x => .inl x)
    exact ⟨F', .next, _, _, nx, (R3.foreign (wr := [C']) (tk := s''.toks) (fun b o hb e => (hs'.2 b fun q => hb (by simp [q])).trans e) (fun b hb => by rw [List.mem_singleton.mp hb]; exact ⟨hB, hF, hFor⟩) (Fz.le.refl _)
      (fun b o e => (hs'.2 b fun q => hF o (q ▸ e)).trans (R3.keepF b o e)) (fun _ _ x => .inl x)).1, trivial, hq D⟩

/-! ### max, append -/
theorem fn_all {h : Heap} {L : Addr} {m : Str → Option Value} (hn : h.Ns L m) :
    Fr ({} : Heap) L h m ∧ ∃ news, News ({} : Heap) L h news ∧ ∀ b o, b ≠ L → h.get? b = some o → (b, o) ∈ news := by
  have e0 : ∀ b, ({} : Heap).get? b = none := fun b => by simp [Heap.get?]
  have fr : Fr ({} : Heap) L h m := { ns := hn, above := Nat.zero_le _, keep := fun b o e => absurd (e.symm.trans (e0 b)) (by simp) }
  refine ⟨fr, ((List.range h.objs.size).filterMap fun a => if a = L then none else (h.get? a).map (Prod.mk a)), ?_, ?_⟩
  · rintro ⟨a, o⟩ hp
    obtain ⟨b, hb, e⟩ := List.mem_filterMap.mp hp
    split at e
    · cases e
    · rename_i hne
      cases hg : h.get? b with
      | none => rw [hg] at e; cases e
      | some o' => rw [hg] at e; cases e; exact ⟨hg, hne, e0 _⟩
  · intro b o hb e
    refine List.mem_filterMap.mpr ⟨b, List.mem_range.mpr (Heap.lt_size e), ?_⟩
    rw [if_neg hb, e]; rfl

theorem ns_unique {h : Heap} {L : Addr} {m m' : Str → Option Value} (a : h.Ns L m) (b : h.Ns L m') : m' = m := by
  obtain ⟨o, es, ep, ho, hd, _, h1⟩ := a
  obtain ⟨o', es', ep', ho', hd', _, h1'⟩ := b
  rw [ho] at ho'; cases ho'; rw [hd] at hd'; cases hd'
  funext y; exact (h1' y).symm.trans (h1 y)

/-- all stays but the frame's own table, and that says the same -/
theorem Rel.growL {s₀ : Shared} {B F : Fz} {s : Shared} {h' : Heap} {tk : Nat} {m : Str → Option Value} (R : Rel C.h₀ s₀ B F L.nm L.env σ μ s) (hm : s.heap.Ns L.env.locals m)
    (hk : ∀ b o, b ≠ L.env.locals → s.heap.get? b = some o → h'.get? b = some o) (hm' : h'.Ns L.env.locals m) : Rel C.h₀ s₀ B F L.nm L.env σ μ { s with heap := h', toks := tk } := by
  obtain ⟨h, tk0, rfl⟩ := R.same
  have cek : ∀ c v, h.IsCell c v → h'.IsCell c v := fun c v hc => by
    have hne := ns_cell_ne hm hc
    obtain ⟨o, ho, hd⟩ := hc
    exact ⟨o, hk c o hne ho, hd⟩
  refine ⟨⟨_, _, rfl⟩, R.baseF, fun b o e => hk b o (fun q => R.nsB o (q ▸ e)) (R.keepB b o e), fun b o e => hk b o (fun q => R.nsF o (q ▸ e)) (R.keepF b o e), ⟨m, hm'⟩, R.nsB, R.nsF, ?_, R.cellsX, R.cellsF, R.apart, ?_, ?_, R.nodup⟩
  · intro x c hc; obtain ⟨v, hv⟩ := R.cells x c hc; exact ⟨v, cek c v hv⟩
  · intro i x k w hx hw
    obtain ⟨V, hV, hW⟩ := R.vars i x k w hx hw
    exact ⟨V, hV.but (fun m1 h1 => by rw [ns_unique hm h1]; exact hm') (fun c v _ hc => cek c v hc), hW⟩
  · intro p hp
    obtain ⟨⟨vs, hl, hD⟩, r⟩ := R.mu p hp
    have hne := ns_get_ne hm hl.isList
    obtain ⟨o, ho, hr⟩ := hl
    exact ⟨⟨vs, ⟨o, hk _ _ hne ho, hr⟩, hD⟩, r⟩

theorem ClA.max {a b : Int} {Q : WV → Sg → Mu → Prop} (h : Q (.val (.int (if b > a then b else a))) σ μ) : ClA C L (.builtin "max") [.val (.int a), .val (.int b)] σ μ Q := fun vs A s₀ B F s hr hR o => by
  cases o with | cons o1 r => cases r with | cons o2 r => cases r with | nil =>
  obtain ⟨t, rfl⟩ := DF.int_inv o1
  obtain ⟨u, rfl⟩ := DF.int_inv o2
  obtain ⟨m, hm⟩ := hR.ns
  obtain ⟨F', news, N, hall⟩ := fn_all hm
  exact max_two_N hr.1 F' N fun h' tk F1 N1 => ⟨F, _, σ, μ, Nx.refl B F, hR.growL hm (fun b o hb e => N1.get (hall b o hb e)) F1.ns, WOk.v (.int _ _), h⟩

theorem not_interactive (L : Lx) : interactive L.env = false := by
  unfold interactive
  rw [L.ok.kind]
  rfl

inductive KApp (a : Addr) (Q : AF → Sg → Mu → Prop) (w : WV) (σ1 : Sg) (μ1 : Mu) : Prop
  | mk (d : PyData) (pre post : Mu) (xs : List PyData) (e : w = .val d) (em : μ1 = pre ++ (a, xs) :: post) (z : xs.length ≤ sizeLine) (h : Q .next σ1 (pre ++ (a, xs ++ [d]) :: post))
/-- x.append(e) -/
theorem StA.append {x : Str} {np ap pos sp : Pos} {e : Expr} {k : NameKind} {a : Addr} {Q : AF → Sg → Mu → Prop} (i : Nat) (hi : L.nm[i]? = some (x, k)) (hw : σ[i]? = some (some (.adr a))) {xs0 : List PyData} (hm0 : (a, xs0) ∈ μ)
    (h : EvA C L e σ μ (KApp a Q))
    (hfew : ((backTo pos (starEach [e] L.env)).all (fun x => !x.1) && (backToKw pos (keywordEach [] L.env)).all (fun x => x.1.isSome)
      && decide (([e] : List Expr).length + ([] : List Keyword).length + (if ([] : List Keyword).isEmpty then 0 else 1) < 30)) = true := by rfl)
    (hline : (ap.endLine == pos.line) = true := by rfl) (htrees : backTo pos (starEach [e] L.env) = [(false, eval e L.env)] := by rfl)
    (hs : swapsWith (.Call (.Attribute (.Name x np) (Str.ofString "append") ap) [e] [] pos) none sp.line L.env = pure false := by rfl) :
    StA C L (.Expr (.Call (.Attribute (.Name x np) (Str.ofString "append") ap) [e] [] pos) sp) σ μ Q :=
  fun A s₀ B F s hr hR _ => by
    refine wpAny_Expr ?_ (not_interactive L) hs
    refine wpAny_Call_append (by rfl) hfew hline htrees (wp_then (EvA.name i hi hw (Q := fun w σ1 μ1 => w = .adr a ∧ σ1 = σ ∧ μ1 = μ) ⟨rfl, rfl, rfl⟩) hr hR trivial fun V s1 F1 w σ1 μ1 n1 R1 o1 q1 => ?_)
    obtain ⟨rfl, rfl, rfl⟩ := q1
    have eV : V = .ref a := o1
    subst eV
    obtain ⟨⟨vs, hl, hD⟩, _⟩ := R1.mu _ hm0
    obtain ⟨o, ho, n, rfl⟩ := hl
    refine ⟨a, vs, rfl, ⟨_, n, ho, rfl, rfl, rfl⟩, ?_⟩
    refine wp_then h hr R1 trivial fun V2 s2 F2 w2 σ2 μ2 n2 R2 o2 q2 => ?_
    obtain ⟨d, pre, post, xs, rfl, rfl, hsz, hq⟩ := q2
    obtain ⟨⟨vs2, hl2, hD2⟩, _⟩ := R2.mu (a, xs) (List.mem_append_right _ (.head _))
    obtain ⟨o2', ho2, n2', rfl⟩ := hl2
    have e1 := hD2.length
    simp only [Array.length_toList] at e1
    refine wpAny_list_append_plain (hsz := by rw [e1]; exact hsz) ⟨n2', ho2⟩ fun h' hl' hs' => ?_
    obtain ⟨n3, e3⟩ := hl'
    exact ⟨F2, .next, _, _, n1.trans n2, R2.setMu (tk := s2.toks) hs' ⟨_, e3, n3, rfl⟩ (by simpa using hD2.append (DFs.one o2)), trivial, hq⟩
end
end Mine
end
section
open PySem PySem.W PySem.Calls PyProof.Rows
set_option linter.unusedVariables false
namespace Mine

/-! ## lists of a known length -/
theorem len_nil {P : List Value → Prop} {vs : List Value} (h : vs.length = 0) (k : P []) : P vs := by
  cases vs with
  | nil => exact k
  | cons => cases h
theorem len_cons {P : List Value → Prop} {n : Nat} {vs : List Value} (h : vs.length = n + 1) (k : ∀ a t, t.length = n → P (a :: t)) : P vs := by
  cases vs with
  | nil => cases h
  | cons a t => exact k a t (Nat.succ.inj h)
@[elab_as_elim] theorem len1 {P : List Value → Prop} {n : Nat} {vs : List Value} (h : vs.length = n) (hn : n = 1) (k : ∀ a, P [a]) : P vs := by
  subst hn; exact len_cons h fun a t ht => len_nil (P := fun t => P (a :: t)) ht (k a)
@[elab_as_elim] theorem len2 {P : List Value → Prop} {n : Nat} {vs : List Value} (h : vs.length = n) (hn : n = 2) (k : ∀ a b, P [a, b]) : P vs := by
  subst hn; exact len_cons h fun a t ht => len1 (P := fun t => P (a :: t)) ht rfl (k a)
@[elab_as_elim] theorem len3 {P : List Value → Prop} {n : Nat} {vs : List Value} (h : vs.length = n) (hn : n = 3) (k : ∀ a b c, P [a, b, c]) : P vs := by
  subst hn; exact len_cons h fun a t ht => len2 (P := fun t => P (a :: t)) ht rfl (k a)
@[elab_as_elim] theorem len4 {P : List Value → Prop} {n : Nat} {vs : List Value} (h : vs.length = n) (hn : n = 4) (k : ∀ a b c d, P [a, b, c, d]) : P vs := by
  subst hn; exact len_cons h fun a t ht => len3 (P := fun t => P (a :: t)) ht rfl (k a)

inductive Res where
  | val (d : PyData)
  | fresh (xs : List PyData)

noncomputable def ResOk (F' : Fz) (h h' : Heap) (V : Value) : Res → Prop
  | .val d => DF F' V d
  | .fresh xs => ∃ l vs, V = .ref l ∧ h.get? l = none ∧ ML h' l vs ∧ DFs F' vs.toList xs ∧ F'.off l

noncomputable def FnAt (C : Cx) (f : Str) : Prop := ∃ a, C.mg f = some (.ref a) ∧ ∃ o fd, C.h₀.get? a = some o ∧ o.data = .func fd

/-- what a def gives back for these data -/
noncomputable def FnSpec (C : Cx) (k : Nat) (f : Str) (ds : List PyData) (r : Res) : Prop :=
  ∀ a, C.mg f = some (.ref a) → ∀ A F (s : Shared) vs, Room k A → (∀ b o, C.h₀.get? b = some o → F b o) → F.sub s.heap → DFs F vs ds →
    wpAny (model C.p C.w) A (call (.ref a) vs) (fun V s' => (∃ h' tk, s' = { s with heap := h', toks := tk } ∧ (∀ b o, s.heap.get? b = some o → h'.get? b = some o)) ∧
      ∃ F', F.le F' ∧ F'.sub s'.heap ∧ (∀ b o, F' b o → F b o ∨ s.heap.get? b = none) ∧ ResOk F' s.heap s'.heap V r) (fun _ _ => False) s

theorem Room.le {k k' : Nat} {A : Around} (h : Room k' A) (hk : k ≤ k') : Room k A := by
  obtain ⟨h1, h2, h3, h4⟩ := h
  exact ⟨h1, by omega, by omega, h4⟩
theorem FnSpec.le {C : Cx} {k k' : Nat} {f : Str} {ds : List PyData} {r : Res} (h : FnSpec C k f ds r) (hk : k ≤ k') : FnSpec C k' f ds r :=
  fun a ha A F s vs hr => h a ha A F s vs (hr.le hk)

section
variable {C : Cx} {L : Lx} {σ : Sg} {μ : Mu}

noncomputable def after (r : Res) (σ : Sg) (μ : Mu) (Q : WV → Sg → Mu → Prop) : Prop :=
  match r with
  | .val d => Q (.val d) σ μ
  | .fresh xs => ∀ l, Q (.adr l) σ ((l, xs) :: μ)

inductive KCall (C : Cx) (L : Lx) (f : Str) (Q : WV → Sg → Mu → Prop) (ws : List WV) (σ1 : Sg) (μ1 : Mu) : Prop
  | mk (ds : List PyData) (r : Res) (e : vals ws = some ds) (spec : FnSpec C L.k f ds r) (h : after r σ1 μ1 Q)

theorem EvA.call {f : Str} {np pos : Pos} {e : Expr} {es : List Expr} {Q : WV → Sg → Mu → Prop} (i : Nat) (hi : L.nm[i]? = some (f, .globalImplicit)) (hf : FnAt C f)
    (h : ArA C L pos (e :: es) σ μ (KCall C L f Q))
    (he : starEach (e :: es) L.env = (false, eval e L.env) :: starEach es L.env := by rfl) : EvA C L (.Call (.Name f np) (e :: es) [] pos) σ μ Q := by
  obtain ⟨a, ha, hfd⟩ := hf
  refine EvA.callD i hi ha hfd (h.mono fun ws σ1 μ1 q => ?_) he
  obtain ⟨ds, r, hv, hs, hq⟩ := q
  intro vs A s₀ B F s hr hR o
  have hD := o.vals hv
  refine wpAny_mono (hs a ha A F s vs hr hR.baseF hR.keepF hD) (fun V s' hh => ?_) fun _ _ x => x
  obtain ⟨⟨h', tk, rfl, hk⟩, F', hF, hF', hn, hres⟩ := hh
  obtain ⟨R', n'⟩ := hR.grow (tk := tk) hk hF hF' hn
  cases r with
  | val d => exact ⟨F', .val d, σ1, μ1, n', R', hres, hq⟩
  | fresh xs =>
    obtain ⟨l, vs', rfl, hl, hml, hd, hoff⟩ := hres
    refine ⟨F', .adr l, σ1, _, n', R'.newList hml hd (fun o' q => ?_) hoff (fun p hp e => ?_), rfl, hq l⟩
    · rw [hR.keepB l o' q] at hl; cases hl
    · obtain ⟨⟨_, ⟨oo, ho, _⟩, _⟩, _⟩ := hR.mu p hp
      rw [e, hl] at ho; cases ho
end

/-- the def in the program's module -/
structure DefOk (C : Cx) (f : Str) (params : Arguments) (body : List Stmt) (scope : Scope) : Prop where
  obj : ∃ a o pm cd doc, C.mg f = some (.ref a) ∧ C.h₀.get? a = some o ∧ o.data = .func (docDef f params body scope pm cd doc) ∧ C.h₀.CodeRec cd f
  kind : scope.kind = .function
  co : scope.isCoroutine = false
  gen : scope.isGenerator = false

theorem DefOk.at {C : Cx} {f : Str} {params : Arguments} {body : List Stmt} {scope : Scope} (D : DefOk C f params body scope) : FnAt C f := by
  obtain ⟨a, o, pm, cd, doc, h1, h2, h3, h4⟩ := D.obj
  exact ⟨a, h1, o, _, h2, h3⟩

noncomputable def funScope (names : Nm) : Bool := decide (names.map (·.1)).Nodup && names.all fun p => p.2 != .free && !(p.1 == ("__debug__" : Str))
noncomputable def parScope (ps : List Str) (names : Nm) : Bool := decide ps.Nodup && ps.all fun p => names.contains (p, .local) || names.contains (p, .cell)

noncomputable def init (names : Nm) (ps : List (Str × PyData)) : Sg := names.map fun p => (ps.lookup p.1).map WV.val

theorem cellsFrom_mem : ∀ (names : Nm) (n : Nat) (acc : List (Str × Addr)) (x : Str), (x, NameKind.cell) ∈ names ∨ (∃ c, acc.lookup x = some c) → ∃ c, (cellsFrom n names acc).lookup x = some c
  | [], n, acc, x, h => by
    unfold cellsFrom
    exact h.elim (fun q => by cases q) id
  | (y, k) :: r, n, acc, x, h => by
    unfold cellsFrom
    by_cases hk : k = .cell
    · subst hk
      simp only [beq_self_eq_true, if_true]
      refine cellsFrom_mem r _ _ x ?_
      by_cases e : x = y
      · subst e; exact .inr ⟨n, by simp⟩
      · rcases h with h | ⟨c, h⟩
        · rcases List.mem_cons.mp h with q | q
          · cases q; exact absurd rfl e
          · exact .inl q
        · exact .inr ⟨c, by rw [List.lookup_cons, beq_eq_false_iff_ne.mpr e]; exact h⟩
    · have : (k == NameKind.cell) = false := by simpa using hk
      simp only [this, Bool.false_eq_true, if_false]
      refine cellsFrom_mem r _ _ x (h.imp (fun q => ?_) id)
      rcases List.mem_cons.mp q with q | q
      · cases q; exact absurd rfl hk
      · exact q

theorem callEnv_ok {fd : FuncData} {L a : Addr} (hk : fd.scope.kind = .function) (hg : fd.globals = mainGlobals) (hb : fd.builtins = builtinsNs) (h : funScope fd.scope.names = true) : EnvOk fd.scope.names (callEnvC fd L a) := by
  simp only [funScope, Bool.and_eq_true, decide_eq_true_eq, List.all_eq_true, Bool.not_eq_true', bne_iff_ne, ne_eq] at h
  obtain ⟨hn, ha⟩ := h
  refine ⟨hk, hg, hb, hn, fun x hx => lookup_mem hn hx, fun x hx => ⟨lookup_mem hn hx, rfl, cellsFrom_mem _ _ _ _ (.inl hx)⟩, fun x hx => absurd rfl (ha _ hx).1, fun x hx => lookup_mem hn hx, fun p hp => (ha p hp).2⟩

theorem bindL_at {kindOf : Str → Option NameKind} : ∀ {binds : List (Str × Value)} {m : Str → Option Value} {x : Str} {V : Value}, (binds.map (·.1)).Nodup → kindOf x = some .local → (x, V) ∈ binds → bindL kindOf binds m x = some V := by
  have off : ∀ (binds : List (Str × Value)) (m : Str → Option Value) (x : Str), x ∉ binds.map (·.1) → bindL kindOf binds m x = m x := by
    intro binds
    induction binds with
    | nil => intro m x _; rfl
    | cons p r ih =>
      obtain ⟨n, v⟩ := p
      intro m x hx
      rw [List.map_cons, List.mem_cons, not_or] at hx
      unfold bindL
      rw [ih _ _ hx.2]
      split
      · simp [hx.1]
      · rfl
  intro binds
  induction binds with
  | nil => intro m x V _ _ h; cases h
  | cons p r ih =>
    obtain ⟨n, v⟩ := p
    intro m x V hn hk h
    rw [List.map_cons, List.nodup_cons] at hn
    unfold bindL
    rcases List.mem_cons.mp h with e | h
    · cases e
      rw [off _ _ _ hn.1, if_pos hk]; simp
    · exact ih hn.2 hk h
theorem bindC_at {kindOf : Str → Option NameKind} : ∀ {binds : List (Str × Value)} {m : Str → Option Value} {x : Str} {V : Value}, (binds.map (·.1)).Nodup → kindOf x ≠ some .local → (x, V) ∈ binds → bindC kindOf binds m x = some V := by
  have off : ∀ (binds : List (Str × Value)) (m : Str → Option Value) (x : Str), x ∉ binds.map (·.1) → bindC kindOf binds m x = m x := by
    intro binds
    induction binds with
    | nil => intro m x _; rfl
    | cons p r ih =>
      obtain ⟨n, v⟩ := p
      intro m x hx
      rw [List.map_cons, List.mem_cons, not_or] at hx
      unfold bindC
      rw [ih _ _ hx.2]
      split
      · rfl
      · simp [hx.1]
  intro binds
  induction binds with
  | nil => intro m x V _ _ h; cases h
  | cons p r ih =>
    obtain ⟨n, v⟩ := p
    intro m x V hn hk h
    rw [List.map_cons, List.nodup_cons] at hn
    unfold bindC
    rcases List.mem_cons.mp h with e | h
    · cases e
      rw [off _ _ _ hn.1, if_neg hk]; simp
    · exact ih hn.2 hk h

theorem lookup_zip : ∀ {ps : List Str} {ds : List PyData} {x : Str} {d : PyData}, (ps.zip ds).lookup x = some d → ∃ i : Nat, ps[i]? = some x ∧ ds[i]? = some d
  | [], _, _, _, h => by simp at h
  | _ :: _, [], _, _, h => by simp at h
  | p :: ps, d' :: ds, x, d, h => by
    rw [List.zip_cons_cons, List.lookup_cons] at h
    cases e : x == p with
    | true => rw [e] at h; cases h; exact ⟨0, by simp [eq_of_beq e], by simp⟩
    | false => rw [e] at h; obtain ⟨i, a, b⟩ := lookup_zip h; exact ⟨i + 1, by simpa using a, by simpa using b⟩

/-- the state at a body's first line -/
theorem entry_rel {C : Cx} {F Bx : Fz} {s s₁ : Shared} {fd : FuncData} {a : Addr} {ps : List Str} {vs : List Value} {ds : List WV}
    (hk : fd.scope.kind = .function) (hg : fd.globals = mainGlobals) (hb : fd.builtins = builtinsNs) (hfs : funScope fd.scope.names = true) (hps : parScope ps fd.scope.names = true)
    (hbase : ∀ b o, C.h₀.get? b = some o → F b o) (hF : F.sub s.heap) (hD : WOks F vs ds) (hlen : ps.length = ds.length)
    (hB : ∀ b o, Bx b o → s.heap.get? b = some o)
    (X : InCallC s (callEnvC fd s.heap.objs.size a).locals (bindL (callEnvC fd s.heap.objs.size a).kindOf (ps.zip vs) fun _ => none) (callEnvC fd s.heap.objs.size a).cells
        (bindC (callEnvC fd s.heap.objs.size a).kindOf (ps.zip vs) fun _ => none) s₁) :
    Rel C.h₀ s Bx F fd.scope.names (callEnvC fd s.heap.objs.size a) (fd.scope.names.map fun p => (ps.zip ds).lookup p.1) [] s₁ := by
  have ok := callEnv_ok (L := s.heap.objs.size) (a := a) hk hg hb hfs
  have fresh : ∀ c, s.heap.objs.size ≤ c → F.off c ∧ Bx.off c := fun c hc => ⟨fun o q => Nat.lt_irrefl _ (Nat.lt_of_lt_of_le (Heap.lt_size (hF c o q)) hc), fun o q => Nat.lt_irrefl _ (Nat.lt_of_lt_of_le (Heap.lt_size (hB c o q)) hc)⟩
  have cellGe : ∀ x c, (callEnvC fd s.heap.objs.size a).cells.lookup x = some c → s.heap.objs.size ≤ c := fun x c hc => Nat.le_of_lt (X.above x c (mem_of_lookup hc))
  have hvl : vs.length = ds.length := by
    clear X hB hlen
    induction hD with
    | nil => rfl
    | cons _ _ ih => simp [ih]
  have hnd : ((ps.zip vs).map (·.1)).Nodup := by
    simp only [parScope, Bool.and_eq_true, decide_eq_true_eq] at hps
    rw [List.map_fst_zip (by omega)]
    exact hps.1
  refine ⟨X.toInCall.same, hbase, fun b o q => X.toInCall.keep b o (hB b o q), fun b o q => X.toInCall.keep b o (hF b o q), ⟨_, X.toInCall.ns⟩, (fresh _ X.toInCall.fresh).2, (fresh _ X.toInCall.fresh).1, fun x c hc => ⟨_, X.cell x c hc⟩, fun x c hc => (fresh _ (cellGe x c hc)).1, fun _ x c hc => (fresh _ (cellGe x c hc)).2, ?_, ?_, fun p hp => (by cases hp), List.nodup_nil⟩
  · intro _ x y c hx hy
    exact name_of_addr X.apart (mem_of_lookup hx) (mem_of_lookup hy)
  · intro i x k w hi hw
    rw [List.getElem?_map, hi] at hw
    simp only [Option.map_some] at hw
    have hlk := Option.some.inj hw
    -- the place among the parameters
    have key : ∀ (ps : List Str) (vs : List Value) (ds : List WV), WOks F vs ds → (ps.zip ds).lookup x = some w → ∃ V, (x, V) ∈ ps.zip vs ∧ WOk F V w := by
      intro ps
      induction ps with
      | nil => intro vs ds _ h; simp at h
      | cons p ps ih =>
        intro vs ds hD h
        cases hD with
        | nil => simp at h
        | cons a r =>
          rw [List.zip_cons_cons, List.lookup_cons] at h
          cases e : x == p with
          | true => rw [e] at h; cases h; exact ⟨_, by rw [eq_of_beq e]; exact .head _, a⟩
          | false => rw [e] at h; obtain ⟨V, h1, h2⟩ := ih _ _ r h; exact ⟨V, .tail _ h1, h2⟩
    obtain ⟨V, hV, hW⟩ := key ps vs ds hD hlk
    refine ⟨V, ?_, hW⟩
    have hxp : x ∈ ps := (List.of_mem_zip hV).1
    simp only [parScope, Bool.and_eq_true, List.all_eq_true, Bool.or_eq_true, List.contains_iff_mem] at hps
    have hxk := hps.2 x hxp
    have hmem := List.mem_of_getElem? hi
    have kindEq : ∀ k', (x, k') ∈ fd.scope.names → k' = k := fun k' h' => by
      have h1 := lookup_mem ok.names h'
      have h2 := lookup_mem ok.names hmem
      rw [h1] at h2; exact Option.some.inj h2
    rcases hxk with q | q
    · obtain rfl := kindEq _ q
      exact ⟨_, X.toInCall.ns, bindL_at hnd (ok.loc x q) hV⟩
    · obtain rfl := kindEq _ q
      obtain ⟨hk1, _, c, hc⟩ := ok.cel x q
      refine ⟨c, hc, ?_⟩
      have := X.cell x c hc
      rwa [bindC_at hnd (by rw [hk1]; simp) hV] at this

theorem room_deeper {k : Nat} {A : Around} (h : Room (k + 1) A) (fd : FuncData) (L a : Addr) (hco : fd.scope.isCoroutine = false) (hgen : fd.scope.isGenerator = false) (hg : fd.globals = mainGlobals) (hb : fd.builtins = builtinsNs) :
    Room k (A.deeper (callEnvC fd L a)) := by
  obtain ⟨h1, h2, h3, e, l, hf, r⟩ := h
  refine ⟨h1, by show A.depth + 1 + k ≤ 800; omega, by show A.units + 3 + 8 * k ≤ 9000; omega, callEnvC fd L a, e :: l, by show A.frames.map _ = _; rw [hf]; rfl, hgen, hco, hb, hg⟩

theorem WOks.ofVals {F : Fz} : ∀ {vs : List Value} {ds : List PyData}, DFs F vs ds → WOks F vs (ds.map .val)
  | _, _, .nil => .nil
  | _, _, .cons x r => .cons x (WOks.ofVals r)

/-- how a body ends -/
noncomputable def RetIs (r : Res) (f : AF) (μ : Mu) : Prop :=
  match r with
  | .val d => f = .ret (.val d) ∨ (d = .none ∧ f = .next)
  | .fresh xs => ∃ l, f = .ret (.adr l) ∧ (l, xs) ∈ μ

noncomputable abbrev KRetIs (r : Res) : AF → Sg → Mu → Prop := fun f _ μ => RetIs r f μ

theorem FnSpec.intro {C : Cx} {k : Nat} {f : Str} {params : Arguments} {body : List Stmt} {scope : Scope} {ds : List PyData} {r : Res} (D : DefOk C f params body scope)
    (hfs : funScope scope.names = true) (hps : parScope (params.args.map (·.arg)) scope.names = true) (hlen : params.args.length = ds.length)
    (hbind : ∀ pm cd doc (vs : List Value), vs.length = params.args.length → bindArgs (docDef f params body scope pm cd doc) ⟨vs, []⟩ = pure ((params.args.map (·.arg)).zip vs))
    (h : ∀ env ok, ExA C ⟨scope.names, env, k, ok⟩ body (scope.names.map fun p => (((params.args.map (·.arg)).zip (ds.map WV.val)).lookup p.1)) [] (KRetIs r)) : FnSpec C (k + 1) f ds r :=
  fun a ha A F s vs hr hbase hF hD => by
    obtain ⟨a', o, pm, cd, doc, ha', ho, hd, hcd⟩ := D.obj
    have e : a' = a := by rw [ha] at ha'; cases ha'; rfl
    subst e
    have keep0 : ∀ b o, C.h₀.get? b = some o → s.heap.get? b = some o := fun b o e => hF b o (hbase b o e)
    have hvl : vs.length = params.args.length := by rw [hD.length, hlen]
    have hfd : funScope (docDef f params body scope pm cd doc).scope.names = true := hfs
    have hd1 : A.depth < recursionLimit := by obtain ⟨_, h2, _⟩ := hr; show A.depth < 1000; omega
    refine wpAny_call (codeAny_call_cells (fd := docDef f params body scope pm cd doc) hd1 (keep0 _ _ ho) hd (C.lim.keeps keep0) (hcd.keeps keep0) rfl (hbind pm cd doc vs hvl) rfl ?_ (fun s₁ X => ?_) D.co D.gen D.kind)
    · intro x hx
      simp only [parScope, Bool.and_eq_true, List.all_eq_true, Bool.or_eq_true, List.contains_iff_mem, decide_eq_true_eq] at hps
      have hn : (scope.names.map (·.1)).Nodup := by simp only [funScope, Bool.and_eq_true, decide_eq_true_eq] at hfs; exact hfs.1
      rcases hps.2 x.1 (List.of_mem_zip hx).1 with q | q
      · exact .inl (lookup_mem hn q)
      · obtain ⟨c, hc⟩ := cellsFrom_mem scope.names (s.heap.objs.size + 1) [] x.1 (.inl q)
        exact .inr ⟨lookup_mem hn q, by show ((cellsFrom (s.heap.objs.size + 1) scope.names []).lookup x.1).isSome = true; rw [hc]; rfl⟩
    · have R := entry_rel (C := C) (Bx := fun b o => s.heap.get? b = some o) D.kind rfl rfl hfd hps hbase hF (WOks.ofVals hD) (by simp [hlen]) (fun _ _ q => q) X
      have ok := callEnv_ok (fd := docDef f params body scope pm cd doc) (L := s.heap.objs.size) (a := a') D.kind rfl rfl hfd
      have hr' := room_deeper hr (docDef f params body scope pm cd doc) s.heap.objs.size a' D.co D.gen rfl rfl
      refine wpAny_mono (h (callEnvC (docDef f params body scope pm cd doc) s.heap.objs.size a') ok _ s _ F s₁ hr' R trivial) (fun fl s' hh => ?_) fun _ _ x => x.elim
      obtain ⟨F', f', σ', μ', n', R', o', q'⟩ := hh
      obtain ⟨h', tk, rfl⟩ := R'.same
      refine ⟨⟨h', tk, rfl, R'.keepB⟩, F', n'.1, R'.keepF, fun b o q => (n'.2 b o q).imp id fun q => ?_, ?_⟩
      · cases hg : s.heap.get? b with
        | none => rfl
        | some o' => exact absurd hg (q o')
      · cases r with
        | val d =>
          rcases q' with rfl | ⟨rfl, rfl⟩
          · cases fl with
            | ret V => exact o'
            | _ => exact o'.elim
          · cases fl with
            | next => exact .none
            | _ => exact o'.elim
        | fresh xs =>
          obtain ⟨l, rfl, hm⟩ := q'
          cases fl with
          | ret V =>
            have eV : V = .ref l := o'
            subst eV
            obtain ⟨⟨vs', hl, hD'⟩, hB', hF'⟩ := R'.mu _ hm
            refine ⟨l, vs', rfl, ?_, hl, hD', hF'⟩
            cases hg : s.heap.get? l with
            | none => rfl
            | some o' => exact absurd hg (hB' o')
          | _ => exact o'.elim
end Mine
end
section
open PySem PySem.W PySem.Calls PyProof.Rows
set_option linter.unusedVariables false
namespace Mine

/-- new objects, and one list of the ledger changed -/
theorem Rel.growSet {C : Cx} {L : Lx} {σ : Sg} {s₀ : Shared} {B F F' : Fz} {s : Shared} {h' : Heap} {tk : Nat} {pre post : Mu} {a : Addr} {ds ds' : List PyData} {vs' : Array Value}
    (R : Rel C.h₀ s₀ B F L.nm L.env σ (pre ++ (a, ds) :: post) s) (hk : ∀ b o, b ≠ a → s.heap.get? b = some o → h'.get? b = some o)
    (hF : F.le F') (hF' : F'.sub h') (hn : ∀ b o, F' b o → F b o ∨ s.heap.get? b = none) (hl' : ML h' a vs') (hd' : DFs F' vs'.toList ds') :
    Rel C.h₀ s₀ B F' L.nm L.env σ (pre ++ (a, ds') :: post) { s with heap := h', toks := tk } ∧ Nx B F F' := by
  obtain ⟨⟨vs, hl, hD⟩, hB, hFa⟩ := R.mu (a, ds) (List.mem_append_right _ (.head _))
  have off : ∀ a o, s.heap.get? a = some o → F.off a → F'.off a := fun a o e hf o' x => (hn a o' x).elim (hf o') (fun q => by rw [e] at q; cases q)
  obtain ⟨m, hm⟩ := R.ns
  obtain ⟨h, tk0, rfl⟩ := R.same
  have hLa := (ns_get_ne hm hl.isList).symm
  have cne : ∀ c v, h.IsCell c v → c ≠ a := fun c v hc => (cell_list_ne hc hl.isList).symm
  have nsk : ∀ m', h.Ns L.env.locals m' → h'.Ns L.env.locals m' := fun m' ⟨o, es, ep, e, r⟩ => ⟨o, es, ep, hk _ _ hLa e, r⟩
  have cek : ∀ c v, h.IsCell c v → h'.IsCell c v := fun c v hc => let ⟨o, e, r⟩ := hc; ⟨o, hk _ _ (cne c v hc) e, r⟩
  have hnd := R.nodup
  rw [List.map_append, List.map_cons] at hnd
  have hnd2 := (List.nodup_append.mp hnd)
  refine ⟨⟨⟨_, _, rfl⟩, fun b o e => hF b o (R.baseF b o e), fun b o e => hk b o (fun q => hB o (q ▸ e)) (R.keepB b o e), hF', ⟨m, nsk m hm⟩, R.nsB, ?_, ?_, ?_, R.cellsF, R.apart, ?_, ?_, ?_⟩, hF, ?_⟩
  · obtain ⟨o, _, _, ho, _⟩ := hm; exact off _ o ho R.nsF
  · intro x c hc; obtain ⟨v, hv⟩ := R.cells x c hc; exact ⟨v, cek c v hv⟩
  · intro x c hc
    obtain ⟨v, o, ho, hd⟩ := R.cells x c hc
    exact off _ o ho (R.cellsX x c hc)
  · intro i x k w hx hw
    obtain ⟨V, hV, hW⟩ := R.vars i x k w hx hw
    exact ⟨V, hV.but (fun m' hm' => nsk m' hm') (fun c v _ hc => cek c v hc), hW.mono hF⟩
  · intro p hp
    have oa : ∃ o, h.get? a = some o := let ⟨o, ho, _⟩ := hl; ⟨o, ho⟩
    obtain ⟨oa, hoa⟩ := oa
    by_cases hpa : p = (a, ds')
    · subst hpa; exact ⟨⟨vs', hl', hd'⟩, hB, off _ oa hoa hFa⟩
    have hpm : p ∈ pre ++ post := by
      rcases List.mem_append.mp hp with q | q
      · exact List.mem_append_left _ q
      · rcases List.mem_cons.mp q with q | q
        · exact absurd q hpa
        · exact List.mem_append_right _ q
    have hpm' : p ∈ pre ++ (a, ds) :: post := (List.mem_append.mp hpm).elim (fun q => List.mem_append_left _ q) fun q => List.mem_append_right _ (.tail _ q)
    obtain ⟨⟨vs'', hl'', hD''⟩, hB', hF''⟩ := R.mu p hpm'
    obtain ⟨o, ho, hr⟩ := hl''
    refine ⟨⟨vs'', ⟨o, hk _ _ (fun e => ?_) ho, hr⟩, hD''.mono hF⟩, hB', off _ o ho hF''⟩
    rcases List.mem_append.mp hpm with hq | hq
    · exact hnd2.2.2 p.1 (List.mem_map.mpr ⟨p, hq, rfl⟩) a (.head _) e
    · exact (List.nodup_cons.mp hnd2.2.1).1 (List.mem_map.mpr ⟨p, hq, e⟩)
  · rw [List.map_append, List.map_cons]; exact hnd
  · intro b o x
    refine (hn b o x).imp id fun q o' hb => ?_
    rw [R.keepB b o' hb] at q; cases q

/-- a def whose first argument is a list that it changes -/
noncomputable def FnSpecR (C : Cx) (k : Nat) (f : Str) (xs ds xs' : List PyData) (d : PyData) : Prop :=
  ∀ a, C.mg f = some (.ref a) → ∀ A F (s : Shared) l vs0 vs, Room k A → (∀ b o, C.h₀.get? b = some o → F b o) → F.sub s.heap → ML s.heap l vs0 → DFs F vs0.toList xs → F.off l → DFs F vs ds →
    wpAny (model C.p C.w) A (call (.ref a) (.ref l :: vs)) (fun V s' => (∃ h' tk, s' = { s with heap := h', toks := tk } ∧ (∀ b o, b ≠ l → s.heap.get? b = some o → h'.get? b = some o)) ∧
      ∃ F' vs', F.le F' ∧ F'.sub s'.heap ∧ (∀ b o, F' b o → F b o ∨ s.heap.get? b = none) ∧ ML s'.heap l vs' ∧ DFs F' vs'.toList xs' ∧ DF F' V d) (fun _ _ => False) s
theorem FnSpecR.le {C : Cx} {k k' : Nat} {f : Str} {xs ds xs' : List PyData} {d : PyData} (h : FnSpecR C k f xs ds xs' d) (hk : k ≤ k') : FnSpecR C k' f xs ds xs' d :=
  fun a ha A F s l vs0 vs hr => h a ha A F s l vs0 vs (hr.le hk)

inductive KCallR (C : Cx) (L : Lx) (f : Str) (Q : WV → Sg → Mu → Prop) (ws : List WV) (σ1 : Sg) (μ1 : Mu) : Prop
  | mk (l : Addr) (rest : List WV) (ds : List PyData) (pre : Mu) (xs : List PyData) (post : Mu) (xs' : List PyData) (d : PyData) (e : ws = .adr l :: rest) (ev : vals rest = some ds) (em : μ1 = pre ++ (l, xs) :: post) (spec : FnSpecR C L.k f xs ds xs' d) (h : Q (.val d) σ1 (pre ++ (l, xs') :: post))

theorem EvA.callR {C : Cx} {L : Lx} {σ : Sg} {μ : Mu} {f : Str} {np pos : Pos} {e : Expr} {es : List Expr} {Q : WV → Sg → Mu → Prop} (i : Nat) (hi : L.nm[i]? = some (f, .globalImplicit)) (hf : FnAt C f)
    (h : ArA C L pos (e :: es) σ μ (KCallR C L f Q))
    (he : starEach (e :: es) L.env = (false, eval e L.env) :: starEach es L.env := by rfl) : EvA C L (.Call (.Name f np) (e :: es) [] pos) σ μ Q := by
  obtain ⟨a, ha, hfd⟩ := hf
  refine EvA.callD i hi ha hfd (h.mono fun ws σ1 μ1 q => ?_) he
  obtain ⟨l, rest, ds, pre, xs, post, xs', d, rfl, hv, rfl, hs, hq⟩ := q
  intro vs A s₀ B F s hr hR o
  cases o with | cons o1 o2 =>
  have e1 : _ = Value.ref l := o1
  subst e1
  have hD := o2.vals hv
  obtain ⟨⟨vs0, hl, hD0⟩, hB, hF⟩ := hR.mu (l, xs) (List.mem_append_right _ (.head _))
  refine wpAny_mono (hs a ha A F s l vs0 _ hr hR.baseF hR.keepF hl hD0 hF hD) (fun V s' hh => ?_) fun _ _ x => x
  obtain ⟨⟨h', tk, rfl, hk⟩, F', vs', hF1, hF2, hn, hl', hd', hV⟩ := hh
  obtain ⟨R', n'⟩ := hR.growSet (tk := tk) hk hF1 hF2 hn hl' hd'
  exact ⟨F', .val d, σ1, _, n', R', hV, hq⟩

noncomputable abbrev KRetR (l : Addr) (xs' : List PyData) (d : PyData) : AF → Sg → Mu → Prop := fun f _ μ => (l, xs') ∈ μ ∧ RetIs (.val d) f μ

theorem FnSpecR.intro {C : Cx} {k : Nat} {f : Str} {params : Arguments} {body : List Stmt} {scope : Scope} {xs ds xs' : List PyData} {d : PyData} (D : DefOk C f params body scope)
    (hfs : funScope scope.names = true) (hps : parScope (params.args.map (·.arg)) scope.names = true) (hlen : params.args.length = ds.length + 1)
    (hbind : ∀ pm cd doc (vs : List Value), vs.length = params.args.length → bindArgs (docDef f params body scope pm cd doc) ⟨vs, []⟩ = pure ((params.args.map (·.arg)).zip vs))
    (h : ∀ env ok l, ExA C ⟨scope.names, env, k, ok⟩ body (scope.names.map fun p => (((params.args.map (·.arg)).zip (.adr l :: ds.map WV.val)).lookup p.1)) [(l, xs)] (KRetR l xs' d)) : FnSpecR C (k + 1) f xs ds xs' d :=
  fun a ha A F s l vs0 vs hr hbase hF hl hD0 hFl hD => by
    obtain ⟨a', o, pm, cd, doc, ha', ho, hd, hcd⟩ := D.obj
    have e : a' = a := by rw [ha] at ha'; cases ha'; rfl
    subst e
    have keep0 : ∀ b o, C.h₀.get? b = some o → s.heap.get? b = some o := fun b o e => hF b o (hbase b o e)
    have hvl : (Value.ref l :: vs).length = params.args.length := by rw [List.length_cons, hD.length, hlen]
    have hfd : funScope (docDef f params body scope pm cd doc).scope.names = true := hfs
    have hd1 : A.depth < recursionLimit := by obtain ⟨_, h2, _⟩ := hr; show A.depth < 1000; omega
    have hW : WOks F (Value.ref l :: vs) (.adr l :: ds.map WV.val) := .cons rfl (WOks.ofVals hD)
    refine wpAny_call (codeAny_call_cells (fd := docDef f params body scope pm cd doc) hd1 (keep0 _ _ ho) hd (C.lim.keeps keep0) (hcd.keeps keep0) rfl (hbind pm cd doc _ hvl) rfl ?_ (fun s₁ X => ?_) D.co D.gen D.kind)
    · intro x hx
      simp only [parScope, Bool.and_eq_true, List.all_eq_true, Bool.or_eq_true, List.contains_iff_mem, decide_eq_true_eq] at hps
      have hn : (scope.names.map (·.1)).Nodup := by simp only [funScope, Bool.and_eq_true, decide_eq_true_eq] at hfs; exact hfs.1
      rcases hps.2 x.1 (List.of_mem_zip hx).1 with q | q
      · exact .inl (lookup_mem hn q)
      · obtain ⟨c, hc⟩ := cellsFrom_mem scope.names (s.heap.objs.size + 1) [] x.1 (.inl q)
        exact .inr ⟨lookup_mem hn q, by show ((cellsFrom (s.heap.objs.size + 1) scope.names []).lookup x.1).isSome = true; rw [hc]; rfl⟩
    · have R0 := entry_rel (C := C) (Bx := fun b o => s.heap.get? b = some o ∧ b ≠ l) D.kind rfl rfl hfd hps hbase hF hW (by simp [hlen]) (fun _ _ q => q.1) X
      have hl1 : ML s₁.heap l vs0 := let ⟨o, e, r⟩ := hl; ⟨o, X.toInCall.keep _ _ e, r⟩
      have R := R0.newList hl1 hD0 (fun o q => q.2 rfl) hFl (fun p hp => by cases hp)
      have ok := callEnv_ok (fd := docDef f params body scope pm cd doc) (L := s.heap.objs.size) (a := a') D.kind rfl rfl hfd
      have hr' := room_deeper hr (docDef f params body scope pm cd doc) s.heap.objs.size a' D.co D.gen rfl rfl
      refine wpAny_mono (h (callEnvC (docDef f params body scope pm cd doc) s.heap.objs.size a') ok l _ s _ F s₁ hr' R trivial) (fun fl s' hh => ?_) fun _ _ x => x.elim
      obtain ⟨F', f', σ', μ', n', R', o', hm, q'⟩ := hh
      obtain ⟨h', tk, rfl⟩ := R'.same
      obtain ⟨⟨vs', hl', hD'⟩, _⟩ := R'.mu _ hm
      refine ⟨⟨h', tk, rfl, fun b o hb e => R'.keepB b o ⟨e, hb⟩⟩, F', vs', n'.1, R'.keepF, fun b o q => ?_, hl', hD', ?_⟩
      · rcases n'.2 b o q with q1 | q1
        · exact .inl q1
        · cases hg : s.heap.get? b with
          | none => exact .inr rfl
          | some o' =>
            by_cases hb : b = l
            · subst hb
              exact absurd q ((R'.mu _ hm).2.2 o)
            · exact absurd ⟨hg, hb⟩ (q1 o')
      · rcases q' with rfl | ⟨rfl, rfl⟩
        · cases fl with
          | ret V => exact o'
          | _ => exact o'.elim
        · cases fl with
          | next => exact .none
          | _ => exact o'.elim
noncomputable def notStar : Expr → Bool
  | .Starred .. => false
  | _ => true
theorem fm2 {α β : Type} (f : α → Option β) {a b : α} {x y : β} (h1 : f a = some x) (h2 : f b = some y) : [a, b].filterMap f = [x, y] := by
  rw [List.filterMap_cons_some h1, List.filterMap_cons_some h2]; rfl
theorem swapped_yes {L : Lx} {x y : Str} {p1 p2 tp vp : Pos} {k k2 i j : Nat} {e1 e2 : Expr} (hi : L.nm[i]? = some (x, .local)) (hj : L.nm[j]? = some (y, .local)) (hij : i ≠ j) (hl : p2.line = p1.line)
    (hs : ([e1, e2].any fun | .Starred .. => true | _ => false) = false) (hf : [e1, e2].all (foldedForSure 8) = false) (hc : [e1, e2].all (constantsAlone 8) = false) :
    swappedStores [.Tuple [.Name x p1, .Name y p2] k tp] (.Tuple [e1, e2] k2 vp) L.env = pure (some [x, y]) := by
  have hx := L.ok.loc x (List.mem_of_getElem? hi)
  have hy := L.ok.loc y (List.mem_of_getElem? hj)
  have hne : x ≠ y := fun e => hij (lookup_getElem L.ok.names (e ▸ hi) hj)
  have hb : L.env.blockKind = .function := by unfold Env.blockKind; rw [L.ok.kind]; rfl
  have hd : [x, y].eraseDups = [x, y] := by
    rw [List.eraseDups_cons, List.filter_cons, if_pos (by rw [beq_eq_false_iff_ne.mpr (Ne.symm hne)]; rfl)]; rfl
  have at' : ∀ z : Str, L.env.kindOf z = some NameKind.local → ∀ n : Nat, (if (L.env.kindOf z == some NameKind.local && n == n) = true then some z else none) = some z := fun z hz n => by
    rw [hz, beq_self_eq_true, beq_self_eq_true]; rfl
  unfold swappedStores
  dsimp only
  rw [hb]
  generalize hN : List.filterMap _ [Expr.Name x p1, Expr.Name y p2] = N
  have eN : N = [x, y] := by
    rw [← hN]
    refine fm2 _ (at' x hx p1.line) ?_
    dsimp only
    rw [hl]
    exact at' y hy p1.line
  generalize hA : List.any [e1, e2] _ = A
  have eA : A = false := hA.symm.trans hs
  rw [eN, hd, eA, hf, hc]
  rfl
theorem swapped_cell {L : Lx} {x y : Str} {p1 p2 tp vp : Pos} {k k2 i : Nat} {e1 e2 : Expr} (hi : L.nm[i]? = some (x, .cell))
    (hs : (notStar e1 && notStar e2) = true) :
    swappedStores [.Tuple [.Name x p1, .Name y p2] k tp] (.Tuple [e1, e2] k2 vp) L.env = pure none := by
  have hx := (L.ok.cel x (List.mem_of_getElem? hi)).1
  have hb : L.env.blockKind = .function := by unfold Env.blockKind; rw [L.ok.kind]; rfl
  have hp1 : (Expr.Name x p1).pos = p1 := rfl
  unfold swappedStores
  simp only [hb]
  by_cases hq : L.env.kindOf y = some NameKind.local ∧ p2.line = p1.line
  · simp [hx, hp1, hq]
  · simp [hx, hp1, hq]
theorem swapped_sub {L : Lx} {o1 i1 o2 i2 : Expr} {p1 p2 tp vp : Pos} {k k2 : Nat} {e1 e2 : Expr} :
    swappedStores [.Tuple [.Subscript o1 i1 p1, .Subscript o2 i2 p2] k tp] (.Tuple [e1, e2] k2 vp) L.env = pure none := by
  have hb : L.env.blockKind = .function := by unfold Env.blockKind; rw [L.ok.kind]; rfl
  unfold swappedStores
  simp only [hb]
  simp [List.filterMap_cons]
/-- a comprehension for a local name of its own line is stored before its own names go -/
theorem swaps_comp {L : Lx} {elt : Expr} {gens : List Comprehension} {scope : Scope} {p np : Pos} {y : Str} {line j : Nat} (hj : L.nm[j]? = some (y, .local)) (hl : (np.line == p.line) = true) (hn : (scope.names.any fun (n, k) => n == y && (k == .local || k == .cell)) = false) :
    swapsWith (.ListComp elt gens scope p) (some (.Name y np)) line L.env = pure true := by
  have hy := L.ok.loc y (List.mem_of_getElem? hj)
  have hb : L.env.blockKind = .function := by unfold Env.blockKind; rw [L.ok.kind]; rfl
  have hp : (Expr.ListComp elt gens scope p).pos = p := rfl
  unfold swapsWith
  simp only [hb, hy, hp, hl, hn]
  rfl

/-! ### comprehensions over one name -/
inductive KElM (σ' : Sg) (μ1 : Mu) (o : Option PyData) (w4 : WV) (σ4 : Sg) (μ4 : Mu) : Prop
  | mk (d : PyData) (e : w4 = .val d) (em : μ4 = μ1) (es : σ4 = σ') (eo : o = some d)
noncomputable def ElM (C : Cx) (k : Nat) (elt : Expr) (names : Nm) (j : Nat) (ws : List WV) (σc : Sg) (μ1 : Mu) (ds : List PyData) : Prop :=
  ∀ (env' : Env) (ok' : EnvOk names env') (i : Nat) (w : WV), ws[i]? = some w → EvA C ⟨names, env', k, ok'⟩ elt (σc.set j (some w)) μ1 (KElM (σc.set j (some w)) μ1 ds[i]?)

inductive KCompM (C : Cx) (L : Lx) (elt : Expr) (names : Nm) (j : Nat) (P : Addr → Sg → List PyData → Mu → Prop) (ws : List WV) (σ1 : Sg) (μ1 : Mu) : Prop
  | mk (σc : Sg) (ds : List PyData) (cap : CapOk L.nm σ1 names σc) (hn : ∀ w, σc[j]? ≠ some (some w)) (len : ds.length = ws.length) (z : ds.length ≤ sizeLine) (el : ElM C L.k elt names j ws σc μ1 ds) (h : ∀ l, P l σ1 ds μ1)

theorem ElM.el {C : Cx} {k : Nat} {x : Str} {px : Pos} {elt : Expr} {names : Nm} {j : Nat} {ws : List WV} {σc : Sg} {μ1 : Mu} {ds : List PyData} (hj : names[j]? = some (x, .local)) (hn : ∀ w, σc[j]? ≠ some (some w)) (h : ElM C k elt names j ws σc μ1 ds) :
    ElA C k (.Name x px) elt [] names ws σc μ1 (ds.map some) := fun env' ok' i w hw =>
  AgA.name (L := ⟨names, env', k, ok'⟩) j hj (.inl rfl) <| TsA.nil <| (h env' ok' i w hw).mono fun w4 σ4 μ4 ⟨d, h1, h2, h3, h4⟩ => ⟨d, h1, h2, by rw [h3]; exact (Sub.refl _).set hn, by rw [List.getElem?_map, h4]; rfl⟩

theorem ItA.mono {C : Cx} {L : Lx} {σ : Sg} {μ : Mu} {t e : Expr} {Q Q' : List WV → Sg → Mu → Prop} (h : ItA C L t e σ μ Q) (hq : ∀ ws σ μ, Q ws σ μ → Q' ws σ μ) : ItA C L t e σ μ Q' := fun A s₀ B F s hr hR => by
  refine wpAny_mono (h A s₀ B F s hr hR) (fun _ s1 h1 => wpAny_mono h1 (fun it s2 h2 => ?_) fun _ _ x => x) fun _ _ x => x
  obtain ⟨F', ws, σ', μ', I, fp, wr, St, F0, a1, a2, a3, a4, a5, a6, a7, a8, q⟩ := h2
  exact ⟨F', ws, σ', μ', I, fp, wr, St, F0, a1, a2, a3, a4, a5, a6, a7, a8, hq _ _ _ q⟩
theorem KCompM.comp {C : Cx} {L : Lx} {x : Str} {px : Pos} {elt : Expr} {names : Nm} {j : Nat} {P : Addr → Sg → List PyData → Mu → Prop} (hj : names[j]? = some (x, .local)) (ws : List WV) (σ1 : Sg) (μ1 : Mu) (q : KCompM C L elt names j P ws σ1 μ1) :
    KComp C L (.Name x px) elt [] names P ws σ1 μ1 := by
  obtain ⟨σc, ds, b1, b2, b3, b4, b5, b6⟩ := q
  exact ⟨σc, ds.map some, b1, by rw [List.length_map]; exact b3, by rw [List.length_map]; exact b4, b5.el hj b2, fun l => by rw [List.filterMap_map]; simpa using b6 l⟩

theorem EvA.compM {C : Cx} {L : Lx} {σ : Sg} {μ : Mu} {x : Str} {px : Pos} {elt iter : Expr} {scope : Scope} {p : Pos} {Q : WV → Sg → Mu → Prop} (j : Nat) (hj : scope.names[j]? = some (x, .local)) (hsc : compScope scope.names = true) (hcn : capNames scope.names L.nm = true)
    (h : ItA C L (.Name x px) iter σ μ (KCompM C L elt scope.names j (PEv Q)))
    (hk : scope.kind = .function := by rfl) (hs : ∀ x, foldedSetIterable iter L.env x = pure x := by intro _; rfl) : EvA C L (.ListComp elt [⟨.Name x px, iter, [], 0⟩] scope p) σ μ Q :=
  EvA.comp hsc hcn (h.mono (KCompM.comp hj)) hk hs

theorem StA.assignM {C : Cx} {L : Lx} {σ : Sg} {μ : Mu} {x y : Str} {px np pos : Pos} {elt iter : Expr} {scope : Scope} {p : Pos} {Q : AF → Sg → Mu → Prop} (iy j : Nat) (hy : L.nm[iy]? = some (y, .local)) (hj : scope.names[j]? = some (x, .local)) (hsc : compScope scope.names = true) (hcn : capNames scope.names L.nm = true)
    (hl : (np.line == p.line) = true) (hn : (scope.names.any fun (n, k) => n == y && (k == .local || k == .cell)) = false)
    (h : ItA C L (.Name x px) iter σ μ (KCompM C L elt scope.names j (PSt iy Q)))
    (hk : scope.kind = .function := by rfl) (hs : ∀ x, foldedSetIterable iter L.env x = pure x := by intro _; rfl) : StA C L (.Assign [.Name y np] (.ListComp elt [⟨.Name x px, iter, [], 0⟩] scope p) pos) σ μ Q :=
  StA.assignC iy hy (.inl rfl) hsc hcn (swaps_comp hy hl hn) (h.mono (KCompM.comp hj)) hk hs
/-! ## light arithmetic of lengths -/
theorem l62 {n k : Nat} (h : n ≤ k) (hk : k ≤ 1000000) : (n : Int) < 2 ^ 62 := by omega
theorem n62 (n : Nat) : -(2 ^ 62) ≤ (n : Int) := by omega
theorem lz {α β : Type} {f : α → β} {p : List α} {n k : Nat} (h : p.length ≤ n) (hn : n ≤ k) : (p.map f).length ≤ k := by rw [List.length_map]; exact Nat.le_trans h hn
theorem lz62 {α β : Type} {f : α → β} {p : List α} {n : Nat} (h : p.length ≤ n) (hn : n ≤ 1000000) : ((p.map f).length : Int) < 2 ^ 62 := by rw [List.length_map]; exact l62 h hn
theorem lzs {α β : Type} {f : α → β} {p : List α} {n : Nat} (h : p.length ≤ n) (hn : n ≤ 1000000) : (p.map f).length ≤ sizeLine := lz h (Nat.le_trans hn (by decide))
theorem tn_sub {a b : Nat} {x y : Int} (hx : x = a) (hy : y = b) : (x - y).toNat = a - b := by rw [hx, hy]; exact Int.toNat_sub a b
end Mine
end
section
open PySem PySem.W PySem.Calls PyProof.Rows
set_option linter.unusedVariables false
namespace Mine
set_option maxRecDepth 100000

noncomputable abbrev prog : Program := PySem.Challenge.rw_xm0144_01.prog
structure DefText where
  name : Str
  params : Arguments
  body : List Stmt
  scope : Scope
noncomputable def nthDef (k : Nat) : Option DefText :=
  match (prog.main.body.drop k) with
  | .FunctionDef n a b _ _ _ sc _ _ _ :: _ => some ⟨n, a, b, sc⟩
  | _ => none

noncomputable def dGcd : { x : DefText // nthDef 3 = some x } := ⟨_, rfl⟩

structure Facts (C : Cx) : Prop where
  defs : ∀ k d, nthDef k = some d → DefOk C d.name d.params d.body d.scope
  b_abs : C.mg (Str.ofString "abs") = none ∧ C.mb (Str.ofString "abs") = some (.builtin "abs")
  b_len : C.mg (Str.ofString "len") = none ∧ C.mb (Str.ofString "len") = some (.builtin "len")
  b_max : C.mg (Str.ofString "max") = none ∧ C.mb (Str.ofString "max") = some (.builtin "max")
  b_int : C.mg (Str.ofString "int") = none ∧ C.mb (Str.ofString "int") = some (.type "int")
  b_list : C.mg (Str.ofString "list") = none ∧ C.mb (Str.ofString "list") = some (.type "list")
  b_range : C.mg (Str.ofString "range") = none ∧ C.mb (Str.ofString "range") = some (.type "range")
  b_enum : C.mg (Str.ofString "enumerate") = none ∧ C.mb (Str.ofString "enumerate") = some (.type "enumerate")
  b_rev : C.mg (Str.ofString "reversed") = none ∧ C.mb (Str.ofString "reversed") = some (.type "reversed")
  g_R0 : GV C (Str.ofString "R0") (.tuple [.int 0, .int 1])
  g_R1 : GV C (Str.ofString "R1") (.tuple [.int 1, .int 1])
  g_F0 : GV C (Str.ofString "F0") (.tuple [.list [], .list [.tuple [.int 1, .int 1]]])

theorem natAbs_if (a : Int) : (if a < 0 then -a else a) = (a.natAbs : Int) := by split <;> omega

inductive JGcd (a b : Int) (n : Nat) (σ : Sg) (μ : Mu) : Prop
  | mk (x : Nat) (h1 : σ = [some (.val (.int x)), some (.val (.int n)), none]) (h2 : μ = []) (h3 : Nat.gcd x n = Int.gcd a b)
theorem gcd_spec {C : Cx} (H : Facts C) (a b : Int) : FnSpec C 1 (Str.ofString "gcd") [.int a, .int b] (.val (.int (Int.gcd a b))) := by
  refine FnSpec.intro (H.defs 3 _ dGcd.2) (by decide +kernel) (by decide +kernel) (by rfl) ?_ ?_
  · exact fun pm cd doc vs h => len2 h rfl fun _ _ => rfl
  intro env ok
  show ExA C _ dGcd.1.body [some (.val (.int a)), some (.val (.int b)), none] [] _
  refine ExA.cons ?_
  refine StA.assignW 0 1 rfl rfl ?_ (swapped_yes (i := 0) (j := 1) rfl rfl (by decide) rfl rfl rfl rfl)
  refine EvA.tuple ?_
  refine ArA.cons ?_
  refine EvA.callB 2 rfl H.b_abs.1 H.b_abs.2 ?_
  refine ArA.cons ?_
  refine EvA.name 0 rfl rfl ?_
  refine ArA.nil ?_
  refine ClA.abs ?_
  refine ArA.cons ?_
  refine EvA.callB 2 rfl H.b_abs.1 H.b_abs.2 ?_
  refine ArA.cons ?_
  refine EvA.name 1 rfl rfl ?_
  refine ArA.nil ?_
  refine ClA.abs ?_
  refine ArA.nil ?_
  refine ⟨_, rfl, by simp [sizeLine], ?_⟩
  refine ⟨_, _, rfl, rfl, ?_⟩
  rw [natAbs_if, natAbs_if]
  refine ExA.cons ?_
  refine StA.while ((JGcd a b)) b.natAbs ⟨a.natAbs, rfl, rfl, rfl⟩ ?_
  rintro n σ μ ⟨x, rfl, rfl, hg⟩
  refine TrA.cmp ?_
  refine EvA.name 1 rfl rfl ?_
  refine EvA.cint ?_
  refine OpA.ne (by simp [PyData.depth]) ?_
  refine ⟨_, rfl, ?_⟩
  by_cases hn : n = 0
  · subst hn
    refine ⟨rfl, ?_⟩
    refine ExA.cons' ?_
    refine StA.ret ?_
    refine EvA.name 0 rfl rfl ?_
    left
    simp at hg
    rw [hg]
  · have e : (!PyData.eqv (.int (n : Int)) (.int 0)) = true := by simp [PyData.eqv, hn]
    rw [e]
    refine ExA.cons ?_
    refine StA.assignW 0 1 rfl rfl ?_ (swapped_yes (i := 0) (j := 1) rfl rfl (by decide) rfl rfl rfl rfl)
    refine EvA.tuple ?_
    refine ArA.cons ?_
    refine EvA.name 1 rfl rfl ?_
    refine ArA.cons ?_
    refine EvA.bin ?_
    refine EvA.name 0 rfl rfl ?_
    refine EvA.name 1 rfl rfl ?_
    refine OpA.mod (by omega) ?_
    refine ArA.nil ?_
    refine ⟨_, rfl, by simp [sizeLine], ?_⟩
    refine ⟨_, _, rfl, rfl, ?_⟩
    refine ExA.nil ?_
    have hm : (x : Int).fmod n = ((x % n : Nat) : Int) := by
      rw [Int.fmod_eq_emod_of_nonneg _ (by omega)]; omega
    refine ⟨x % n, Nat.mod_lt _ (by omega), n, ?_, rfl, ?_⟩
    · rw [hm]; rfl
    · rw [← hg, Nat.gcd_comm x n, Nat.gcd_rec n x, Nat.gcd_comm]
end Mine
end
section
open PySem PySem.W PySem.Calls PyProof.Rows
set_option linter.unusedVariables false
namespace Mine
set_option maxRecDepth 100000

/-! ### sizes -/
noncomputable def Bd (n : Nat) (q : Rat) : Prop := q.num.natAbs < 2 ^ n ∧ q.den < 2 ^ n

theorem pow_le2 {n m : Nat} (h : n ≤ m) : 2 ^ n ≤ 2 ^ m := Nat.pow_le_pow_right (by decide) h
theorem Bd.mono {n m : Nat} {q : Rat} (h : Bd n q) (hm : n ≤ m) : Bd m q := ⟨Nat.lt_of_lt_of_le h.1 (pow_le2 hm), Nat.lt_of_lt_of_le h.2 (pow_le2 hm)⟩

theorem intBits_le {x : Int} {n : Nat} (h : x.natAbs < 2 ^ n) : Builtin.Int.intBits x ≤ n := by
  unfold Builtin.Int.intBits
  split
  · omega
  · rename_i hx
    have hx' : x.natAbs ≠ 0 := by
      intro e
      apply hx
      simp
      omega
    have := (Nat.log2_lt hx').mpr h
    omega
theorem mulOk {a b : Int} {n m : Nat} (ha : a.natAbs < 2 ^ n) (hb : b.natAbs < 2 ^ m) (h : n + m ≤ 2 ^ 27) : IntMulOk a b := by
  have h1 := intBits_le ha
  have h2 := intBits_le hb
  unfold IntMulOk
  intro hc
  rw [Bool.and_eq_true] at hc
  have h3 := hc.2
  unfold Builtin.Int.intTooBig bitsLine at h3
  rw [decide_eq_true_eq] at h3
  omega

theorem natAbs_mul_lt {a b : Int} {n m : Nat} (ha : a.natAbs < 2 ^ n) (hb : b.natAbs < 2 ^ m) : (a * b).natAbs < 2 ^ (n + m) := by
  rw [Int.natAbs_mul, Nat.pow_add]
  exact Nat.mul_lt_mul'' ha hb

theorem divInt_bd {a b : Int} {n : Nat} (hb : b ≠ 0) (h1 : a.natAbs < 2 ^ n) (h2 : b.natAbs < 2 ^ n) : Bd n (Rat.divInt a b) := by
  constructor
  · rw [Rat.num_divInt]
    refine Nat.lt_of_le_of_lt (Int.natAbs_ediv_le_natAbs _ _) ?_
    rw [Int.natAbs_mul]
    have : b.sign.natAbs = 1 := by
      rcases Int.lt_trichotomy b 0 with h | h | h
      · rw [Int.sign_eq_neg_one_of_neg h]; rfl
      · exact absurd h hb
      · rw [Int.sign_eq_one_of_pos h]; rfl
    rw [this]; omega
  · rw [Rat.den_divInt, if_neg hb]
    exact Nat.lt_of_le_of_lt (Nat.div_le_self _ _) h2

/-! ### rationals -/
noncomputable def encQ (q : Rat) : PyData := .tuple [.int q.num, .int q.den]

theorem rat_val (t b : Int) (hb : b ≠ 0) :
    t.fdiv (if 0 < b then (Int.gcd t b : Int) else 0 - (Int.gcd t b : Int)) = (Rat.divInt t b).num ∧
    b.fdiv (if 0 < b then (Int.gcd t b : Int) else 0 - (Int.gcd t b : Int)) = ((Rat.divInt t b).den : Int) := by
  have hG : 0 < Int.gcd t b := Int.gcd_pos_of_ne_zero_right _ hb
  obtain ⟨t', ht⟩ := Int.gcd_dvd_left t b
  obtain ⟨b', hb'⟩ := Int.gcd_dvd_right t b
  rw [Rat.num_divInt, Rat.den_divInt, if_neg hb, Int.gcd_comm b t]
  generalize Int.gcd t b = G at *
  have hG' : (G : Int) ≠ 0 := by omega
  have hd : b.natAbs / G = b'.natAbs := by
    rw [hb', Int.natAbs_mul, Int.natAbs_natCast, Nat.mul_div_cancel_left _ hG]
  rw [hd]
  by_cases h : 0 < b
  · simp only [if_pos h]
    have hb0 : 0 < b' := by
      rcases Int.lt_trichotomy b' 0 with q | q | q
      · have := Int.mul_neg_of_pos_of_neg (show (0 : Int) < G by omega) q
        omega
      · rw [q] at hb'; omega
      · exact q
    rw [Int.sign_eq_one_of_pos h, Int.one_mul]
    constructor
    · rw [ht, Int.mul_fdiv_cancel_left _ hG', Int.mul_ediv_cancel_left _ hG']
    · conv => lhs; rw [hb', Int.mul_fdiv_cancel_left _ hG']
      omega
  · simp only [if_neg h]
    have hbn : b < 0 := by omega
    have hb0 : b' < 0 := by
      rcases Int.lt_trichotomy b' 0 with q | q | q
      · exact q
      · rw [q] at hb'; omega
      · have := Int.mul_pos (show (0 : Int) < G by omega) q
        omega
    rw [Int.sign_eq_neg_one_of_neg hbn]
    have e : (0 - (G : Int)) = (G : Int) * (-1) := by omega
    have hne : (0 - (G : Int)) ≠ 0 := by omega
    constructor
    · have e1 : t = (0 - (G : Int)) * (-t') := by rw [ht]; grind
      rw [e1, Int.mul_fdiv_cancel_left _ hne]
      have e2 : -1 * ((0 - (G : Int)) * -t') = (G : Int) * (-t') := by grind
      rw [e2, Int.mul_ediv_cancel_left _ hG']
    · have e1 : b = (0 - (G : Int)) * (-b') := by rw [hb']; grind
      rw [e1, Int.mul_fdiv_cancel_left _ hne]
      omega

noncomputable def dRat : { x : DefText // nthDef 7 = some x } := ⟨_, rfl⟩
noncomputable def dRadd : { x : DefText // nthDef 8 = some x } := ⟨_, rfl⟩
noncomputable def dRsub : { x : DefText // nthDef 9 = some x } := ⟨_, rfl⟩
noncomputable def dRmul : { x : DefText // nthDef 10 = some x } := ⟨_, rfl⟩
noncomputable def dRdiv : { x : DefText // nthDef 11 = some x } := ⟨_, rfl⟩
noncomputable def dRneg : { x : DefText // nthDef 12 = some x } := ⟨_, rfl⟩
noncomputable def dRinv : { x : DefText // nthDef 13 = some x } := ⟨_, rfl⟩

theorem rat_spec {C : Cx} (H : Facts C) (t b : Int) (hb : b ≠ 0) : FnSpec C 2 (Str.ofString "rat") [.int t, .int b] (.val (encQ (Rat.divInt t b))) := by
  refine FnSpec.intro (H.defs 7 _ dRat.2) (by decide +kernel) (by decide +kernel) (by rfl) ?_ ?_
  · exact fun pm cd doc vs h => len2 h rfl fun _ _ => rfl
  intro env ok
  show ExA C _ dRat.1.body [some (.val (.int t)), some (.val (.int b)), none, none, none] [] _
  refine ExA.cons (StA.ite (TrA.cmp (EvA.name 1 rfl rfl (EvA.cint (OpA.eq (by simp [PyData.depth]) ⟨_, rfl, ?_⟩)))))
  have e : PyData.eqv (.int b) (.int 0) = false := by simp [PyData.eqv, hb]
  rw [e]
  refine ExA.nil ⟨rfl, ?_⟩
  have hat := (H.defs 3 _ dGcd.2).at
  refine ExA.cons (StA.assignN 2 rfl (.inl rfl) (EvA.ifexp (TrA.cmp (EvA.name 1 rfl rfl (EvA.cint (OpA.gt ⟨_, rfl, ?_⟩))))))
  have hv := rat_val t b hb
  have hG : (Int.gcd t b : Int) ≠ 0 := by
    have : 0 < Int.gcd t b := Int.gcd_pos_of_ne_zero_right _ hb
    omega
  have fin : ∀ g : Int, g = (if 0 < b then (Int.gcd t b : Int) else 0 - (Int.gcd t b : Int)) → ExA C ⟨dRat.1.scope.names, env, 1, ok⟩ (dRat.1.body.drop 2) [some (.val (.int t)), some (.val (.int b)), some (.val (.int g)), none, none] [] (KRetIs (.val (encQ (Rat.divInt t b)))) := by
    intro g hg
    have hg0 : g ≠ 0 := by rw [hg]; split <;> omega
    refine ExA.cons' (StA.ret (EvA.tuple (ArA.cons (EvA.bin (EvA.name 0 rfl rfl (EvA.name 2 rfl rfl (OpA.fdiv hg0 ?_)))))))
    refine ArA.cons (EvA.bin (EvA.name 1 rfl rfl (EvA.name 2 rfl rfl (OpA.fdiv hg0 (ArA.nil ⟨_, rfl, by simp [sizeLine], ?_⟩)))))
    left
    rw [hg, hv.1, hv.2]
    rfl
  by_cases h : 0 < b
  · rw [decide_eq_true h]
    refine EvA.call 4 rfl hat (ArA.cons (EvA.name 0 rfl rfl (ArA.cons (EvA.name 1 rfl rfl (ArA.nil ⟨_, _, rfl, gcd_spec H t b, ⟨rfl, ?_⟩⟩)))))
    exact fin _ (by rw [if_pos h])
  · rw [decide_eq_false h]
    refine EvA.bin (EvA.cint (EvA.call 4 rfl hat (ArA.cons (EvA.name 0 rfl rfl (ArA.cons (EvA.name 1 rfl rfl (ArA.nil ⟨_, _, rfl, gcd_spec H t b, OpA.sub ⟨rfl, ?_⟩⟩)))))))
    exact fin _ (by rw [if_neg h])

theorem den_lt {q : Rat} {n : Nat} (h : Bd n q) : ((q.den : Int)).natAbs < 2 ^ n := h.2
theorem den_ne (q : Rat) : ((q.den : Int)) ≠ 0 := by have := q.den_nz; omega

theorem add_eq (a b : Rat) : Rat.divInt (a.num * b.den + b.num * a.den) (a.den * b.den) = a + b := by
  have := Rat.divInt_add_divInt a.num b.num (den_ne a) (den_ne b)
  rw [Rat.num_divInt_den, Rat.num_divInt_den] at this
  exact this.symm
theorem sub_eq (a b : Rat) : Rat.divInt (a.num * b.den - b.num * a.den) (a.den * b.den) = a - b := by
  have := Rat.divInt_sub_divInt a.num b.num (den_ne a) (den_ne b)
  rw [Rat.num_divInt_den, Rat.num_divInt_den] at this
  exact this.symm
theorem mul_eq (a b : Rat) : Rat.divInt (a.num * b.num) (a.den * b.den) = a * b := by
  have := Rat.divInt_mul_divInt a.num b.num (d₁ := a.den) (d₂ := b.den)
  rw [Rat.num_divInt_den, Rat.num_divInt_den] at this
  exact this.symm
theorem div_eq (a b : Rat) : Rat.divInt (a.num * b.den) (a.den * b.num) = a / b := by
  have := Rat.divInt_mul_divInt a.num b.den (d₁ := a.den) (d₂ := b.num)
  rw [Rat.num_divInt_den, ← Rat.inv_divInt, Rat.num_divInt_den] at this
  rw [Rat.div_def]
  exact this.symm

theorem Bd.pos {n : Nat} {q : Rat} (h : Bd n q) : 1 ≤ n := by
  rcases Nat.eq_zero_or_pos n with e | e
  · subst e; have := h.2; have := q.den_nz; simp at *; omega
  · exact e
theorem addlt {x y n : Nat} (hx : x < 2 ^ n) (hy : y < 2 ^ n) : x + y < 2 ^ (n + 1) := by rw [Nat.pow_succ]; omega
theorem Bd.add {n m : Nat} {a b : Rat} (ha : Bd n a) (hb : Bd m b) : Bd (n + m + 1) (a + b) := by
  rw [← add_eq]
  refine divInt_bd (by have := den_ne a; have := den_ne b; exact Int.mul_ne_zero (den_ne a) (den_ne b)) ?_ ?_
  · refine Nat.lt_of_le_of_lt (Int.natAbs_add_le _ _) (addlt (natAbs_mul_lt ha.1 (den_lt hb)) ?_)
    have := natAbs_mul_lt hb.1 (den_lt ha)
    rwa [Nat.add_comm] at this
  · exact Nat.lt_of_lt_of_le (natAbs_mul_lt (den_lt ha) (den_lt hb)) (pow_le2 (by first | with_reducible assumption | with_reducible exact Nat.le_trans ‹_ ≤ 400› (by decide) | with_reducible exact Nat.le_trans ‹_ ≤ 100› (by decide) | with_reducible exact Int.natCast_nonneg _ | with_reducible exact n62 _ | with_reducible exact l62 ‹_ ≤ 400› (by decide) | with_reducible exact l62 ‹_ ≤ 100› (by decide) | omega))
theorem Bd.sub {n m : Nat} {a b : Rat} (ha : Bd n a) (hb : Bd m b) : Bd (n + m + 1) (a - b) := by
  rw [← sub_eq]
  refine divInt_bd (Int.mul_ne_zero (den_ne a) (den_ne b)) ?_ ?_
  · refine Nat.lt_of_le_of_lt (Int.natAbs_sub_le _ _) (addlt (natAbs_mul_lt ha.1 (den_lt hb)) ?_)
    have := natAbs_mul_lt hb.1 (den_lt ha)
    rwa [Nat.add_comm] at this
  · exact Nat.lt_of_lt_of_le (natAbs_mul_lt (den_lt ha) (den_lt hb)) (pow_le2 (by first | with_reducible assumption | with_reducible exact Nat.le_trans ‹_ ≤ 400› (by decide) | with_reducible exact Nat.le_trans ‹_ ≤ 100› (by decide) | with_reducible exact Int.natCast_nonneg _ | with_reducible exact n62 _ | with_reducible exact l62 ‹_ ≤ 400› (by decide) | with_reducible exact l62 ‹_ ≤ 100› (by decide) | omega))
theorem Bd.mul {n m : Nat} {a b : Rat} (ha : Bd n a) (hb : Bd m b) : Bd (n + m) (a * b) := by
  rw [← mul_eq]
  exact divInt_bd (Int.mul_ne_zero (den_ne a) (den_ne b)) (natAbs_mul_lt ha.1 hb.1) (natAbs_mul_lt (den_lt ha) (den_lt hb))
theorem num_ne {q : Rat} (h : q ≠ 0) : q.num ≠ 0 := fun e => h (Rat.num_eq_zero.mp e)
theorem Bd.div {n m : Nat} {a b : Rat} (ha : Bd n a) (hb : Bd m b) (h : b ≠ 0) : Bd (n + m) (a / b) := by
  rw [← div_eq]
  exact divInt_bd (Int.mul_ne_zero (den_ne a) (num_ne h)) (natAbs_mul_lt ha.1 (den_lt hb)) (natAbs_mul_lt (den_lt ha) hb.1)
theorem Bd.neg {n : Nat} {a : Rat} (ha : Bd n a) : Bd n (-a) := ⟨by rw [Rat.neg_num, Int.natAbs_neg]; exact ha.1, by rw [Rat.neg_den]; exact ha.2⟩
theorem Bd.inv {n : Nat} {a : Rat} (ha : Bd n a) (h : a ≠ 0) : Bd n a⁻¹ := by
  rw [Rat.inv_def]
  exact divInt_bd (num_ne h) (den_lt ha) ha.1
theorem Bd.zero {n : Nat} (h : 1 ≤ n) : Bd n 0 := ⟨by show 0 < 2 ^ n; exact Nat.pow_pos (by decide), by show 1 < 2 ^ n; exact Nat.one_lt_pow (by first | with_reducible assumption | with_reducible exact Nat.le_trans ‹_ ≤ 400› (by decide) | with_reducible exact Nat.le_trans ‹_ ≤ 100› (by decide) | with_reducible exact Int.natCast_nonneg _ | with_reducible exact n62 _ | with_reducible exact l62 ‹_ ≤ 400› (by decide) | with_reducible exact l62 ‹_ ≤ 100› (by decide) | omega) (by decide)⟩
theorem Bd.one {n : Nat} (h : 1 ≤ n) : Bd n 1 := ⟨by show 1 < 2 ^ n; exact Nat.one_lt_pow (by first | with_reducible assumption | with_reducible exact Nat.le_trans ‹_ ≤ 400› (by decide) | with_reducible exact Nat.le_trans ‹_ ≤ 100› (by decide) | with_reducible exact Int.natCast_nonneg _ | with_reducible exact n62 _ | with_reducible exact l62 ‹_ ≤ 400› (by decide) | with_reducible exact l62 ‹_ ≤ 100› (by decide) | omega) (by decide), by show 1 < 2 ^ n; exact Nat.one_lt_pow (by first | with_reducible assumption | with_reducible exact Nat.le_trans ‹_ ≤ 400› (by decide) | with_reducible exact Nat.le_trans ‹_ ≤ 100› (by decide) | with_reducible exact Int.natCast_nonneg _ | with_reducible exact n62 _ | with_reducible exact l62 ‹_ ≤ 400› (by decide) | with_reducible exact l62 ‹_ ≤ 100› (by decide) | omega) (by decide)⟩

/-- the bound under which products stand -/
noncomputable abbrev Lim : Nat := 2 ^ 26


section
variable {C : Cx} {L : Lx} {σ : Sg} {μ : Mu}
theorem EvA.num {x : Str} {np cp sp : Pos} {c : Nat} {k : NameKind} {a : Rat} {Q : WV → Sg → Mu → Prop} (i : Nat) (hi : L.nm[i]? = some (x, k)) (hw : σ[i]? = some (some (.val (encQ a)))) (h : Q (.val (.int a.num)) σ μ) :
    EvA C L (.Subscript (.Name x np) (.Constant (.int 0) c cp) sp) σ μ Q :=
  EvA.sub (EvA.name i hi hw (EvA.cint (SubA.tup (j := 0) (by simp) rfl rfl h)))
theorem EvA.den {x : Str} {np cp sp : Pos} {c : Nat} {k : NameKind} {a : Rat} {Q : WV → Sg → Mu → Prop} (i : Nat) (hi : L.nm[i]? = some (x, k)) (hw : σ[i]? = some (some (.val (encQ a)))) (h : Q (.val (.int a.den)) σ μ) :
    EvA C L (.Subscript (.Name x np) (.Constant (.int 1) c cp) sp) σ μ Q :=
  EvA.sub (EvA.name i hi hw (EvA.cint (SubA.tup (j := 1) (by simp) rfl rfl h)))
end

theorem radd_spec {C : Cx} (H : Facts C) {n m : Nat} {a b : Rat} (ha : Bd n a) (hb : Bd m b) (hn : n + m ≤ Lim) : FnSpec C 3 (Str.ofString "radd") [encQ a, encQ b] (.val (encQ (a + b))) := by
  refine FnSpec.intro (H.defs 8 _ dRadd.2) (by decide +kernel) (by decide +kernel) (by rfl) ?_ ?_
  · exact fun pm cd doc vs h => len2 h rfl fun _ _ => rfl
  intro env ok
  show ExA C _ dRadd.1.body [some (.val (encQ a)), some (.val (encQ b)), none] [] _
  have hat := (H.defs 7 _ dRat.2).at
  have hL : n + m ≤ 2 ^ 27 := Nat.le_trans hn (by decide)
  refine ExA.cons' (StA.ret (EvA.call 2 rfl hat (ArA.cons ?_)))
  refine EvA.bin (EvA.bin (EvA.num 0 rfl rfl (EvA.den 1 rfl rfl (OpA.mul (mulOk ha.1 (den_lt hb) hL) ?_))))
  refine EvA.bin (EvA.num 1 rfl rfl (EvA.den 0 rfl rfl (OpA.mul (mulOk hb.1 (den_lt ha) (by first | with_reducible assumption | with_reducible exact Nat.le_trans ‹_ ≤ 400› (by decide) | with_reducible exact Nat.le_trans ‹_ ≤ 100› (by decide) | with_reducible exact Int.natCast_nonneg _ | with_reducible exact n62 _ | with_reducible exact l62 ‹_ ≤ 400› (by decide) | with_reducible exact l62 ‹_ ≤ 100› (by decide) | omega)) (OpA.add (ArA.cons ?_)))))
  refine EvA.bin (EvA.den 0 rfl rfl (EvA.den 1 rfl rfl (OpA.mul (mulOk (den_lt ha) (den_lt hb) hL) (ArA.nil ⟨_, _, rfl, rat_spec H _ _ (Int.mul_ne_zero (den_ne a) (den_ne b)), ?_⟩))))
  rw [add_eq]
  exact .inl rfl

theorem rsub_spec {C : Cx} (H : Facts C) {n m : Nat} {a b : Rat} (ha : Bd n a) (hb : Bd m b) (hn : n + m ≤ Lim) : FnSpec C 3 (Str.ofString "rsub") [encQ a, encQ b] (.val (encQ (a - b))) := by
  refine FnSpec.intro (H.defs 9 _ dRsub.2) (by decide +kernel) (by decide +kernel) (by rfl) ?_ ?_
  · exact fun pm cd doc vs h => len2 h rfl fun _ _ => rfl
  intro env ok
  show ExA C _ dRsub.1.body [some (.val (encQ a)), some (.val (encQ b)), none] [] _
  have hat := (H.defs 7 _ dRat.2).at
  have hL : n + m ≤ 2 ^ 27 := Nat.le_trans hn (by decide)
  refine ExA.cons' (StA.ret (EvA.call 2 rfl hat (ArA.cons ?_)))
  refine EvA.bin (EvA.bin (EvA.num 0 rfl rfl (EvA.den 1 rfl rfl (OpA.mul (mulOk ha.1 (den_lt hb) hL) ?_))))
  refine EvA.bin (EvA.num 1 rfl rfl (EvA.den 0 rfl rfl (OpA.mul (mulOk hb.1 (den_lt ha) (by first | with_reducible assumption | with_reducible exact Nat.le_trans ‹_ ≤ 400› (by decide) | with_reducible exact Nat.le_trans ‹_ ≤ 100› (by decide) | with_reducible exact Int.natCast_nonneg _ | with_reducible exact n62 _ | with_reducible exact l62 ‹_ ≤ 400› (by decide) | with_reducible exact l62 ‹_ ≤ 100› (by decide) | omega)) (OpA.sub (ArA.cons ?_)))))
  refine EvA.bin (EvA.den 0 rfl rfl (EvA.den 1 rfl rfl (OpA.mul (mulOk (den_lt ha) (den_lt hb) hL) (ArA.nil ⟨_, _, rfl, rat_spec H _ _ (Int.mul_ne_zero (den_ne a) (den_ne b)), ?_⟩))))
  rw [sub_eq]
  exact .inl rfl

theorem rmul_spec {C : Cx} (H : Facts C) {n m : Nat} {a b : Rat} (ha : Bd n a) (hb : Bd m b) (hn : n + m ≤ Lim) : FnSpec C 3 (Str.ofString "rmul") [encQ a, encQ b] (.val (encQ (a * b))) := by
  refine FnSpec.intro (H.defs 10 _ dRmul.2) (by decide +kernel) (by decide +kernel) (by rfl) ?_ ?_
  · exact fun pm cd doc vs h => len2 h rfl fun _ _ => rfl
  intro env ok
  show ExA C _ dRmul.1.body [some (.val (encQ a)), some (.val (encQ b)), none] [] _
  have hat := (H.defs 7 _ dRat.2).at
  have hL : n + m ≤ 2 ^ 27 := Nat.le_trans hn (by decide)
  refine ExA.cons' (StA.ret (EvA.call 2 rfl hat (ArA.cons ?_)))
  refine EvA.bin (EvA.num 0 rfl rfl (EvA.num 1 rfl rfl (OpA.mul (mulOk ha.1 hb.1 hL) (ArA.cons ?_))))
  refine EvA.bin (EvA.den 0 rfl rfl (EvA.den 1 rfl rfl (OpA.mul (mulOk (den_lt ha) (den_lt hb) hL) (ArA.nil ⟨_, _, rfl, rat_spec H _ _ (Int.mul_ne_zero (den_ne a) (den_ne b)), ?_⟩))))
  rw [mul_eq]
  exact .inl rfl

theorem rdiv_spec {C : Cx} (H : Facts C) {n m : Nat} {a b : Rat} (ha : Bd n a) (hb : Bd m b) (hn : n + m ≤ Lim) (h0 : b ≠ 0) : FnSpec C 3 (Str.ofString "rdiv") [encQ a, encQ b] (.val (encQ (a / b))) := by
  refine FnSpec.intro (H.defs 11 _ dRdiv.2) (by decide +kernel) (by decide +kernel) (by rfl) ?_ ?_
  · exact fun pm cd doc vs h => len2 h rfl fun _ _ => rfl
  intro env ok
  show ExA C _ dRdiv.1.body [some (.val (encQ a)), some (.val (encQ b)), none] [] _
  have hat := (H.defs 7 _ dRat.2).at
  have hL : n + m ≤ 2 ^ 27 := Nat.le_trans hn (by decide)
  refine ExA.cons' (StA.ret (EvA.call 2 rfl hat (ArA.cons ?_)))
  refine EvA.bin (EvA.num 0 rfl rfl (EvA.den 1 rfl rfl (OpA.mul (mulOk ha.1 (den_lt hb) hL) (ArA.cons ?_))))
  refine EvA.bin (EvA.den 0 rfl rfl (EvA.num 1 rfl rfl (OpA.mul (mulOk (den_lt ha) hb.1 hL) (ArA.nil ⟨_, _, rfl, rat_spec H _ _ (Int.mul_ne_zero (den_ne a) (num_ne h0)), ?_⟩))))
  rw [div_eq]
  exact .inl rfl

theorem rneg_spec {C : Cx} (H : Facts C) (a : Rat) : FnSpec C 1 (Str.ofString "rneg") [encQ a] (.val (encQ (-a))) := by
  refine FnSpec.intro (H.defs 12 _ dRneg.2) (by decide +kernel) (by decide +kernel) (by rfl) ?_ ?_
  · exact fun pm cd doc vs h => len1 h rfl fun _ => rfl
  intro env ok
  show ExA C _ dRneg.1.body [some (.val (encQ a))] [] _
  refine ExA.cons' <| StA.ret <| EvA.tuple <| ArA.cons <| EvA.bin <| EvA.cint <| EvA.num 0 rfl rfl <| OpA.sub <| ArA.cons <| EvA.den 0 rfl rfl <| ArA.nil ⟨_, rfl, by simp [sizeLine], ?_⟩
  left
  simp [encQ, Rat.neg_num, Rat.neg_den]

theorem inv_eq (a : Rat) : Rat.divInt a.den a.num = a⁻¹ := (Rat.inv_def a).symm
theorem rinv_spec {C : Cx} (H : Facts C) {a : Rat} (h0 : a ≠ 0) : FnSpec C 3 (Str.ofString "rinv") [encQ a] (.val (encQ a⁻¹)) := by
  refine FnSpec.intro (H.defs 13 _ dRinv.2) (by decide +kernel) (by decide +kernel) (by rfl) ?_ ?_
  · exact fun pm cd doc vs h => len1 h rfl fun _ => rfl
  intro env ok
  show ExA C _ dRinv.1.body [some (.val (encQ a)), none] [] _
  have hat := (H.defs 7 _ dRat.2).at
  refine ExA.cons' (StA.ret (EvA.call 1 rfl hat (ArA.cons (EvA.den 0 rfl rfl (ArA.cons (EvA.num 0 rfl rfl (ArA.nil ⟨_, _, rfl, rat_spec H _ _ (num_ne h0), ?_⟩)))))))
  rw [inv_eq]
  exact .inl rfl
end Mine
end
section
set_option linter.unusedVariables false
namespace Mine

/-! ### lists without zeros at the end -/
noncomputable def trim {α : Type} [DecidableEq α] (z : α) : List α → List α
  | [] => []
  | a :: r => if trim z r = [] ∧ a = z then [] else a :: trim z r

theorem trim_snoc {α : Type} [DecidableEq α] (z : α) (l : List α) (a : α) : trim z (l ++ [a]) = if a = z then trim z l else l ++ [a] := by
  induction l with
  | nil =>
    simp only [List.nil_append, trim]
    by_cases h : a = z <;> simp [h]
  | cons b r ih =>
    simp only [List.cons_append, trim, ih]
    by_cases h : a = z
    · simp [h]
    · simp [h]
theorem trim_length {α : Type} [DecidableEq α] (z : α) (l : List α) : (trim z l).length ≤ l.length := by
  induction l with
  | nil => simp [trim]
  | cons b r ih =>
    simp only [trim]
    split
    · simp
    · simp; exact ih
theorem trim_mem {α : Type} [DecidableEq α] {z x : α} {l : List α} (h : x ∈ trim z l) : x ∈ l := by
  induction l with
  | nil => simp [trim] at h
  | cons b r ih =>
    simp only [trim] at h
    split at h
    · cases h
    · rcases List.mem_cons.mp h with e | e
      · rw [e]; exact .head _
      · exact .tail _ (ih e)

noncomputable def addL {α : Type} [Add α] [DecidableEq α] (z : α) (a b : List α) : List α := trim z ((List.range (max a.length b.length)).map fun i => a.getD i z + b.getD i z)

/-! ### polynomials with rational coefficients -/
noncomputable abbrev P := List Rat
noncomputable def qadd (a b : P) : P := addL 0 a b
noncomputable def qneg (a : P) : P := a.map fun x => -x
noncomputable def qsub (a b : P) : P := qadd a (qneg b)
noncomputable def qscale (p : P) (r : Rat) : P := if r ≠ 0 then p.map fun x => x * r else []
noncomputable def qraise (p : P) (many : Nat) : P := if p = [] then [] else List.replicate many 0 ++ p
/-- found[i + j] grows by l * r, j from k on -/
noncomputable def mulRow (i : Nat) (l : Rat) : Nat → P → P → P
  | _, [], found => found
  | j, r :: rs, found => mulRow i l (j + 1) rs (found.set (i + j) (found.getD (i + j) 0 + l * r))
noncomputable def mulRows (b : P) : Nat → P → P → P
  | _, [], found => found
  | i, l :: ls, found => mulRows b (i + 1) ls (mulRow i l 0 b found)
noncomputable def qmul (a b : P) : P := if a = [] ∨ b = [] then [] else mulRows b 0 a (List.replicate (a.length + b.length - 1) 0)
noncomputable def divLoop (b : P) : Nat → P → P → P × P
  | 0, rest, found => (found, rest)
  | n + 1, rest, found =>
    if b.length ≤ rest.length then
      divLoop b n (qsub rest.dropLast (qraise (qscale b.dropLast (rest.getLastD 0 / b.getLastD 0)) (rest.length - b.length))) (found.set (rest.length - b.length) (rest.getLastD 0 / b.getLastD 0))
    else (found, rest)
noncomputable def qdivmod (a b : P) : P × P :=
  let r := divLoop b a.length a (List.replicate (a.length + 1 - b.length) 0)
  (trim 0 r.1, r.2)
noncomputable def qmonic (p : P) : P := if p = [] then [] else qscale p (p.getLastD 0)⁻¹
noncomputable def gcdLoop : Nat → P → P → P
  | 0, a, _ => a
  | n + 1, a, b => if b = [] then a else gcdLoop n b (qmonic (qdivmod a b).2)
noncomputable def qgcd (a b : P) : P := qmonic (gcdLoop (b.length + 1) a b)
noncomputable def qat (p : P) (r : Rat) : Rat := p.foldr (fun c acc => acc * r + c) 0

noncomputable abbrev Fr2 := P × P
noncomputable def F0v : Fr2 := ([], [1])
noncomputable def fmake (t b : P) : Fr2 :=
  if t = [] then F0v else
  let c := qgcd t b
  let tb := if 1 < c.length then ((qdivmod t c).1, (qdivmod b c).1) else (t, b)
  let s := (tb.2.getLastD 0)⁻¹
  (qscale tb.1 s, qscale tb.2 s)
noncomputable def fpoly (p : P) : Fr2 := (p, [1])
noncomputable def fnumber (r : Rat) : Fr2 := (if r = 0 then [] else [r], [1])
noncomputable def fadd (f g : Fr2) : Fr2 := fmake (qadd (qmul f.1 g.2) (qmul g.1 f.2)) (qmul f.2 g.2)
noncomputable def fdiv (f g : Fr2) : Fr2 := fmake (qmul f.1 g.2) (qmul f.2 g.1)

/-! ### polynomials with whole coefficients -/
noncomputable abbrev Z := List Int
noncomputable def zadd (a b : Z) : Z := addL 0 a b
noncomputable def zneg (a : Z) : Z := a.map fun x => -x
noncomputable def zsub (a b : Z) : Z := zadd a (zneg b)
noncomputable def zscale (p : Z) (k : Int) : Z := if k ≠ 0 then p.map fun x => x * k else []
noncomputable def zmulRow (i : Nat) (l : Int) : Nat → Z → Z → Z
  | _, [], found => found
  | j, r :: rs, found => zmulRow i l (j + 1) rs (found.set (i + j) (found.getD (i + j) 0 + l * r))
noncomputable def zmulRows (b : Z) : Nat → Z → Z → Z
  | _, [], found => found
  | i, l :: ls, found => zmulRows b (i + 1) ls (if l ≠ 0 then zmulRow i l 0 b found else found)
noncomputable def zmul (a b : Z) : Z := if a = [] ∨ b = [] then [] else zmulRows b 0 a (List.replicate (a.length + b.length - 1) 0)
noncomputable def zat (p : Z) (n : Int) : Int := p.foldr (fun c acc => acc * n + c) 0
noncomputable def fromZ (z : Z) : P := z.map fun (x : Int) => (x : Rat)
end Mine
end
section
open PySem PySem.W PySem.Calls PyProof.Rows
set_option linter.unusedVariables false
namespace Mine
set_option maxRecDepth 100000

noncomputable def encP (p : P) : PyData := .list (p.map encQ)
noncomputable def encZ (z : Z) : PyData := .list (z.map .int)

section
variable {C : Cx} {L : Lx} {σ : Sg} {μ : Mu}
/-- an item at a place from the front -/
theorem SubA.at {e1 e2 : Expr} {w : WV} {xs : List PyData} {k : Int} {d : PyData} {Q : WV → Sg → Mu → Prop} (j : Nat) (hl : LL μ w xs) (hk : k = (j : Int)) (hx : xs[j]? = some d) (hn : xs.length ≤ 100000) (h : Q (.val d) σ μ)
    (hs : ∀ t k u, subscripted e2 false (.ref t) (.int k u) = operate [.ref t, .int k u] (getItem (.ref t) (.int k u)) := by intro _ _ _; with_unfolding_all rfl) :
    OpA C L (subscriptTail e1 e2) w (.val (.int k)) σ μ Q := by
  subst hk
  have hlt := (List.getElem?_eq_some_iff.mp hx).1
  exact SubA.lst hl (by first | with_reducible assumption | with_reducible exact Nat.le_trans ‹_ ≤ 400› (by decide) | with_reducible exact Nat.le_trans ‹_ ≤ 100› (by decide) | with_reducible exact Int.natCast_nonneg _ | with_reducible exact n62 _ | with_reducible exact l62 ‹_ ≤ 400› (by decide) | with_reducible exact l62 ‹_ ≤ 100› (by decide) | omega) (seqIndex_nat hlt) hx h hs
theorem seqIndex_last {n : Nat} : seqIndex? (-1) (n + 1) = some n := by
  unfold seqIndex?
  simp only [show (-1 : Int) < 0 by decide, if_true]
  have h : (decide (0 ≤ -1 + ((n + 1 : Nat) : Int)) && decide (-1 + ((n + 1 : Nat) : Int) < ((n + 1 : Nat) : Int))) = true := by simp; omega
  rw [if_pos h]
  congr 1
  omega
/-- the last item -/
theorem SubA.last {e1 e2 : Expr} {w : WV} {xs : List PyData} {d : PyData} {Q : WV → Sg → Mu → Prop} (hl : LL μ w xs) (hx : xs.getLast? = some d) (hn : xs.length ≤ 100000) (h : Q (.val d) σ μ)
    (hs : ∀ t k u, subscripted e2 false (.ref t) (.int k u) = operate [.ref t, .int k u] (getItem (.ref t) (.int k u)) := by intro _ _ _; with_unfolding_all rfl) :
    OpA C L (subscriptTail e1 e2) w (.val (.int (-1))) σ μ Q := by
  rw [List.getLast?_eq_getElem?] at hx
  have hlt := (List.getElem?_eq_some_iff.mp hx).1
  obtain ⟨n, hn'⟩ : ∃ n, xs.length = n + 1 := ⟨xs.length - 1, by omega⟩
  rw [hn'] at hx
  exact SubA.lst hl (by first | with_reducible assumption | with_reducible exact Nat.le_trans ‹_ ≤ 400› (by decide) | with_reducible exact Nat.le_trans ‹_ ≤ 100› (by decide) | with_reducible exact Int.natCast_nonneg _ | with_reducible exact n62 _ | with_reducible exact l62 ‹_ ≤ 400› (by decide) | with_reducible exact l62 ‹_ ≤ 100› (by decide) | omega) (by rw [hn']; exact seqIndex_last) hx h hs
end

theorem getQ {p : P} {j : Nat} {q : Rat} (h : p[j]? = some q) : (p.map encQ)[j]? = some (encQ q) := by rw [List.getElem?_map, h]; rfl
theorem bool_not_eqv {i : Int} : (PyData.eqv (.int i) (.int 0)) = decide (i = 0) := by
  simp only [PyData.eqv]
  by_cases h : i = 0 <;> simp [h]

noncomputable def dQtrim : { x : DefText // nthDef 15 = some x } := ⟨_, rfl⟩
inductive JQtrim (p : P) (n : Nat) (σ : Sg) (μ : Mu) : Prop
  | mk  (h1 : n ≤ p.length) (h2 : σ = [some (.val (encP p)), some (.val (.int n)), none, none]) (h3 : μ = []) (h4 : trim 0 (p.take n) = trim 0 p)
theorem qtrim_spec {C : Cx} (H : Facts C) {p : P} (hp : p.length ≤ 1000) : FnSpec C 1 (Str.ofString "qtrim") [encP p] (.val (encP (trim 0 p))) := by
  refine FnSpec.intro (H.defs 15 _ dQtrim.2) (by decide +kernel) (by decide +kernel) (by rfl) ?_ ?_
  · exact fun pm cd doc vs h => len1 h rfl fun _ => rfl
  intro env ok
  show ExA C _ dQtrim.1.body [some (.val (encP p)), none, none, none] [] _
  refine ExA.cons <| StA.assignN 1 rfl (.inl rfl) <| EvA.callB 2 rfl H.b_len.1 H.b_len.2 <| ArA.cons <| EvA.name 0 rfl rfl <| ArA.nil <| ClA.len_list (.inl rfl) (by first | with_reducible exact lz ‹_ ≤ 400› (by decide) | with_reducible exact lz ‹_ ≤ 100› (by decide) | with_reducible exact lz ‹_ ≤ 50› (by decide) | with_reducible exact lz62 ‹_ ≤ 400› (by decide) | with_reducible exact lz62 ‹_ ≤ 100› (by decide) | with_reducible exact lz62 ‹_ ≤ 50› (by decide) | (simp; omega)) ⟨rfl, ?_⟩
  refine ExA.cons <| StA.while ((JQtrim p)) p.length ⟨Nat.le_refl _, by simp, rfl, by simp⟩ ?_
  rintro n σ μ ⟨hn, rfl, rfl, ht⟩
  refine TrA.and_cons <| TrA.cmp <| EvA.name 1 rfl rfl <| EvA.cint <| OpA.gt ⟨_, rfl, ?_⟩
  have fin : trim 0 (p.take n) = p.take n → ExA C ⟨dQtrim.1.scope.names, env, 0, ok⟩ (dQtrim.1.body.drop 2) [some (.val (encP p)), some (.val (.int n)), none, none] [] (KRetIs (.val (encP (trim 0 p)))) := by
    intro e
    refine ExA.cons' <| StA.ret <| JdW.frz <| EvA.callT 3 rfl H.b_list.1 H.b_list.2 <| ArA.cons <| JdW.frz <| EvA.slice <| EvA.name 0 rfl rfl <| PtA.no <| PtA.yes <| EvA.name 1 rfl rfl ⟨_, rfl, _, .inl rfl, by simp [sizeLine]; omega, fun l => ⟨l, _, [], _, rfl, rfl, ?_⟩⟩
    rw [pick_to]
    refine ArA.nil <| ClA.list (.inl rfl) (by first | with_reducible exact lzs ‹_ ≤ 400› (by decide) | with_reducible exact lzs ‹_ ≤ 100› (by decide) | with_reducible exact lzs ‹_ ≤ 50› (by decide) | (simp [sizeLine]; omega)) fun l => ⟨l, _, [], _, rfl, rfl, ?_⟩
    left
    rw [← ht, e, encP, List.map_take]
  cases n with
  | zero =>
    rw [decide_eq_false (by first | with_reducible assumption | with_reducible exact Nat.le_trans ‹_ ≤ 400› (by decide) | with_reducible exact Nat.le_trans ‹_ ≤ 100› (by decide) | with_reducible exact Int.natCast_nonneg _ | with_reducible exact n62 _ | with_reducible exact l62 ‹_ ≤ 400› (by decide) | with_reducible exact l62 ‹_ ≤ 100› (by decide) | omega)]
    exact ⟨rfl, fin (by simp [trim])⟩
  | succ m =>
    rw [decide_eq_true (by first | with_reducible assumption | with_reducible exact Nat.le_trans ‹_ ≤ 400› (by decide) | with_reducible exact Nat.le_trans ‹_ ≤ 100› (by decide) | with_reducible exact Int.natCast_nonneg _ | with_reducible exact n62 _ | with_reducible exact l62 ‹_ ≤ 400› (by decide) | with_reducible exact l62 ‹_ ≤ 100› (by decide) | omega)]
    have hm : m < p.length := by omega
    have hget : p[m]? = some p[m] := by simp [hm]
    have ek : ((m + 1 : Nat) : Int) - 1 = (m : Int) := by omega
    refine TrA.and_cons <| TrA.cmp <| EvA.sub <| EvA.sub <| EvA.name 0 rfl rfl <| EvA.bin <| EvA.name 1 rfl rfl <| EvA.cint <| OpA.sub <| SubA.at m (.inl rfl) ek (getQ hget) (by first | with_reducible exact lz ‹_ ≤ 400› (by decide) | with_reducible exact lz ‹_ ≤ 100› (by decide) | with_reducible exact lz ‹_ ≤ 50› (by decide) | with_reducible exact lz62 ‹_ ≤ 400› (by decide) | with_reducible exact lz62 ‹_ ≤ 100› (by decide) | with_reducible exact lz62 ‹_ ≤ 50› (by decide) | (simp; omega)) <| EvA.cint <| SubA.tup (j := 0) (by simp) rfl rfl <| EvA.cint <| OpA.eq (by simp [PyData.depth]) ⟨_, rfl, ?_⟩
    rw [bool_not_eqv]
    have hsp : p.take (m + 1) = p.take m ++ [p[m]] := by rw [List.take_add_one, hget]; rfl
    by_cases h0 : p[m].num = 0
    · rw [decide_eq_true h0]
      refine TrA.and_nil ?_
      refine ExA.cons <| StA.aug 1 rfl (.inl rfl) rfl <| EvA.cint <| OpA.isub ⟨rfl, ExA.nil ⟨m, by omega, by omega, ?_, rfl, ?_⟩⟩
      · rw [ek]; rfl
      · rw [hsp, trim_snoc, if_pos (Rat.num_eq_zero.mp h0)] at ht
        exact ht
    · rw [decide_eq_false h0]
      refine ⟨rfl, fin ?_⟩
      rw [hsp, trim_snoc, if_neg (fun e => h0 (by rw [e]; rfl))]

noncomputable def BdP (n : Nat) (p : P) : Prop := ∀ q ∈ p, Bd n q
theorem BdP.mono {n m : Nat} {p : P} (h : BdP n p) (hm : n ≤ m) : BdP m p := fun q hq => (h q hq).mono hm
theorem BdP.getD {n : Nat} {p : P} (h : BdP n p) (hn : 1 ≤ n) (i : Nat) : Bd n (p.getD i 0) := by
  rw [List.getD_eq_getElem?_getD]
  cases e : p[i]? with
  | none => exact Bd.zero hn
  | some q => exact h q (List.mem_of_getElem? e)
theorem encQ_zero : encQ 0 = .tuple [.int 0, .int 1] := rfl
theorem encQ_one : encQ 1 = .tuple [.int 1, .int 1] := rfl

noncomputable def dQdegree : { x : DefText // nthDef 16 = some x } := ⟨_, rfl⟩
noncomputable def dQlead : { x : DefText // nthDef 17 = some x } := ⟨_, rfl⟩
noncomputable def dQadd : { x : DefText // nthDef 18 = some x } := ⟨_, rfl⟩
noncomputable def dQneg : { x : DefText // nthDef 19 = some x } := ⟨_, rfl⟩
noncomputable def dQsub : { x : DefText // nthDef 20 = some x } := ⟨_, rfl⟩
noncomputable def dQscale : { x : DefText // nthDef 21 = some x } := ⟨_, rfl⟩
noncomputable def dQraise : { x : DefText // nthDef 22 = some x } := ⟨_, rfl⟩

theorem qdegree_spec {C : Cx} (H : Facts C) {p : P} (hp : p.length ≤ 1000) : FnSpec C 1 (Str.ofString "qdegree") [encP p] (.val (.int (p.length - 1))) := by
  refine FnSpec.intro (H.defs 16 _ dQdegree.2) (by decide +kernel) (by decide +kernel) (by rfl) ?_ ?_
  · exact fun pm cd doc vs h => len1 h rfl fun _ => rfl
  intro env ok
  show ExA C _ dQdegree.1.body [some (.val (encP p)), none] [] _
  refine ExA.cons' <| StA.ret <| EvA.bin <| EvA.callB 1 rfl H.b_len.1 H.b_len.2 <| ArA.cons <| EvA.name 0 rfl rfl <| ArA.nil <| ClA.len_list (.inl rfl) (by first | with_reducible exact lz ‹_ ≤ 400› (by decide) | with_reducible exact lz ‹_ ≤ 100› (by decide) | with_reducible exact lz ‹_ ≤ 50› (by decide) | with_reducible exact lz62 ‹_ ≤ 400› (by decide) | with_reducible exact lz62 ‹_ ≤ 100› (by decide) | with_reducible exact lz62 ‹_ ≤ 50› (by decide) | (simp; omega)) <| EvA.cint <| OpA.sub ?_
  left
  simp

theorem qlead_spec {C : Cx} (H : Facts C) {p : P} (hp : p.length ≤ 1000) : FnSpec C 1 (Str.ofString "qlead") [encP p] (.val (encQ (p.getLastD 0))) := by
  refine FnSpec.intro (H.defs 17 _ dQlead.2) (by decide +kernel) (by decide +kernel) (by rfl) ?_ ?_
  · exact fun pm cd doc vs h => len1 h rfl fun _ => rfl
  intro env ok
  show ExA C _ dQlead.1.body [some (.val (encP p)), none, none] [] _
  refine ExA.cons' <| StA.ret <| EvA.ifexp <| TrA.cmp <| EvA.callB 1 rfl H.b_len.1 H.b_len.2 <| ArA.cons <| EvA.name 0 rfl rfl <| ArA.nil <| ClA.len_list (.inl rfl) (by first | with_reducible exact lz ‹_ ≤ 400› (by decide) | with_reducible exact lz ‹_ ≤ 100› (by decide) | with_reducible exact lz ‹_ ≤ 50› (by decide) | with_reducible exact lz62 ‹_ ≤ 400› (by decide) | with_reducible exact lz62 ‹_ ≤ 100› (by decide) | with_reducible exact lz62 ‹_ ≤ 50› (by decide) | (simp; omega)) <| EvA.cint <| OpA.gt ⟨_, rfl, ?_⟩
  rcases List.eq_nil_or_concat p with rfl | ⟨r, q, rfl⟩
  · simp only [List.map_nil, List.length_nil, Int.natCast_zero, Int.lt_irrefl, decide_false, Bool.false_eq_true, if_false]
    exact EvA.glob 2 rfl H.g_R0 (.inl rfl)
  · rw [List.concat_eq_append] at *
    rw [decide_eq_true (by simp <;> omega)]
    refine EvA.sub <| EvA.name 0 rfl rfl <| EvA.un <| EvA.cint <| Op1.neg <| SubA.last (d := encQ q) (.inl rfl) (by simp) (by first | with_reducible exact lz ‹_ ≤ 400› (by decide) | with_reducible exact lz ‹_ ≤ 100› (by decide) | with_reducible exact lz ‹_ ≤ 50› (by decide) | with_reducible exact lz62 ‹_ ≤ 400› (by decide) | with_reducible exact lz62 ‹_ ≤ 100› (by decide) | with_reducible exact lz62 ‹_ ≤ 50› (by decide) | (rw [List.length_map]; omega)) ?_
    left
    simp

theorem lt_int_nat (i n : Nat) : decide ((i : Int) < (n : Int)) = decide (i < n) := by simp
/-- an item of a list, nought behind its end -/
theorem EvA.getQ {C : Cx} {L : Lx} {σ : Sg} {μ : Mu} (H : Facts C) {x y : Str} {k1 k2 : NameKind} {p1 p2 p3 p4 p5 p6 p7 p8 p9 : Pos} {i : Nat} {a : P} {Q : WV → Sg → Mu → Prop} (ia ii il ir : Nat)
    (ha : L.nm[ia]? = some (x, k1)) (hai : σ[ia]? = some (some (.val (encP a)))) (hi : L.nm[ii]? = some (y, k2)) (hii : σ[ii]? = some (some (.val (.int i))))
    (hl : L.nm[il]? = some (Str.ofString "len", .globalImplicit)) (hr : L.nm[ir]? = some (Str.ofString "R0", .globalImplicit)) (hn : a.length ≤ 1000) (h : Q (.val (encQ (a.getD i 0))) σ μ) :
    EvA C L (.IfExp (.Compare (.Name y p1) [.Lt] [.Call (.Name (Str.ofString "len") p2) [.Name x p3] [] p4] p5) (.Subscript (.Name x p6) (.Name y p7) p8) (.Name (Str.ofString "R0") p9) pos) σ μ Q := by
  refine EvA.ifexp <| TrA.cmp <| EvA.name ii hi hii <| EvA.callB il hl H.b_len.1 H.b_len.2 <| ArA.cons <| EvA.name ia ha hai <| ArA.nil <| ClA.len_list (.inl rfl) (by first | with_reducible exact lz ‹_ ≤ 400› (by decide) | with_reducible exact lz ‹_ ≤ 100› (by decide) | with_reducible exact lz ‹_ ≤ 50› (by decide) | with_reducible exact lz62 ‹_ ≤ 400› (by decide) | with_reducible exact lz62 ‹_ ≤ 100› (by decide) | with_reducible exact lz62 ‹_ ≤ 50› (by decide) | (simp; omega)) <| OpA.lt ⟨_, rfl, ?_⟩
  rw [List.length_map, lt_int_nat]
  by_cases hlt : i < a.length
  · rw [decide_eq_true hlt]
    refine EvA.sub <| EvA.name ia ha hai <| EvA.name ii hi hii <| SubA.at i (.inl rfl) rfl (Mine.getQ (q := a.getD i 0) (by simp [List.getD_eq_getElem?_getD, hlt])) (by first | with_reducible exact lz ‹_ ≤ 400› (by decide) | with_reducible exact lz ‹_ ≤ 100› (by decide) | with_reducible exact lz ‹_ ≤ 50› (by decide) | with_reducible exact lz62 ‹_ ≤ 400› (by decide) | with_reducible exact lz62 ‹_ ≤ 100› (by decide) | with_reducible exact lz62 ‹_ ≤ 50› (by decide) | (simp; omega)) h
  · rw [decide_eq_false hlt]
    refine EvA.glob ir hr H.g_R0 ?_
    have e : a.getD i 0 = 0 := by simp [List.getD_eq_getElem?_getD, hlt]
    rw [e] at h
    exact h

theorem max_nat (a b : Nat) : (if (b : Int) > (a : Int) then (b : Int) else (a : Int)) = ((max a b : Nat) : Int) := by split <;> omega

theorem BdP.qadd {n m : Nat} {a b : P} (ha : BdP n a) (hb : BdP m b) (h1 : 1 ≤ n) (h2 : 1 ≤ m) : BdP (n + m + 1) (qadd a b) := fun q hq => by
  have := trim_mem hq
  obtain ⟨i, _, rfl⟩ := List.mem_map.mp this
  exact (ha.getD h1 i).add (hb.getD h2 i)

theorem qadd_spec {C : Cx} (H : Facts C) {n m : Nat} {a b : P} (ha : BdP n a) (hb : BdP m b) (h1 : 1 ≤ n) (h2 : 1 ≤ m) (hn : n + m ≤ Lim) (la : a.length ≤ 1000) (lb : b.length ≤ 1000) :
    FnSpec C 4 (Str.ofString "qadd") [encP a, encP b] (.val (encP (qadd a b))) := by
  refine FnSpec.intro (H.defs 18 _ dQadd.2) (by decide +kernel) (by decide +kernel) (by rfl) ?_ ?_
  · exact fun pm cd doc vs h => len2 h rfl fun _ _ => rfl
  intro env ok
  show ExA C _ dQadd.1.body [some (.val (encP a)), some (.val (encP b)), none, none, none, none, none] [] _
  refine ExA.cons <| StA.assignN 2 rfl (.inl rfl) <| EvA.callB 3 rfl H.b_max.1 H.b_max.2 <| ArA.cons <| EvA.callB 4 rfl H.b_len.1 H.b_len.2 <| ArA.cons <| EvA.name 0 rfl rfl <| ArA.nil <| ClA.len_list (.inl rfl) (by first | with_reducible exact lz ‹_ ≤ 400› (by decide) | with_reducible exact lz ‹_ ≤ 100› (by decide) | with_reducible exact lz ‹_ ≤ 50› (by decide) | with_reducible exact lz62 ‹_ ≤ 400› (by decide) | with_reducible exact lz62 ‹_ ≤ 100› (by decide) | with_reducible exact lz62 ‹_ ≤ 50› (by decide) | (simp; omega)) <| ArA.cons <| EvA.callB 4 rfl H.b_len.1 H.b_len.2 <| ArA.cons <| EvA.name 1 rfl rfl <| ArA.nil <| ClA.len_list (.inl rfl) (by first | with_reducible exact lz ‹_ ≤ 400› (by decide) | with_reducible exact lz ‹_ ≤ 100› (by decide) | with_reducible exact lz ‹_ ≤ 50› (by decide) | with_reducible exact lz62 ‹_ ≤ 400› (by decide) | with_reducible exact lz62 ‹_ ≤ 100› (by decide) | with_reducible exact lz62 ‹_ ≤ 50› (by decide) | (simp; omega)) <| ArA.nil <| ClA.max ⟨rfl, ?_⟩
  rw [List.length_map, List.length_map, max_nat]
  have hat := (H.defs 15 _ dQtrim.2).at
  have hat2 := (H.defs 8 _ dRadd.2).at
  refine ExA.cons' <| StA.ret <| EvA.call 5 rfl hat <| ArA.cons <| JdW.frz <| EvA.compM 1 rfl (by decide +kernel) (by rfl) ?_
  refine ItA.range1 6 rfl H.b_range.1 H.b_range.2 <| EvA.name 2 rfl rfl ⟨_, rfl, by omega, by omega, ?_⟩
  refine ⟨[none, none, none, none, none, some (.val (encP a)), some (.val (encP b))], ((List.range (max a.length b.length)).map fun i => encQ (a.getD i 0 + b.getD i 0)), ⟨⟨rfl, 0, rfl, rfl⟩, ⟨rfl, 1, rfl, rfl⟩, trivial⟩, by simp, by simp, by simp [sizeLine]; omega, ?_, ?_⟩
  · intro env' ok' i w hw
    rw [List.getElem?_map] at hw
    cases hx : (List.range ((max a.length b.length : Nat) : Int).toNat)[i]? with
    | none => rw [hx] at hw; cases hw
    | some j =>
      rw [hx] at hw; cases hw
      have hj := List.getElem?_eq_some_iff.mp hx
      have e : j = i := by simpa using hj.2.symm
      have hlt : i < max a.length b.length := by simpa using hj.1
      subst e
      refine EvA.call 2 rfl hat2 <| ArA.cons <| EvA.getQ H 5 1 3 4 rfl rfl rfl rfl rfl rfl la <| ArA.cons <| EvA.getQ H 6 1 3 4 rfl rfl rfl rfl rfl rfl lb <| ArA.nil ⟨_, _, rfl, radd_spec H (ha.getD h1 j) (hb.getD h2 j) hn, ⟨_, rfl, rfl, rfl, ?_⟩⟩
      simp [hlt]
  · intro l
    refine ⟨l, _, [], _, rfl, rfl, ?_⟩
    have hs := qtrim_spec H (p := (List.range (max a.length b.length)).map fun i => a.getD i 0 + b.getD i 0) (by first | with_reducible exact lz ‹_ ≤ 400› (by decide) | with_reducible exact lz ‹_ ≤ 100› (by decide) | with_reducible exact lz ‹_ ≤ 50› (by decide) | with_reducible exact lz62 ‹_ ≤ 400› (by decide) | with_reducible exact lz62 ‹_ ≤ 100› (by decide) | with_reducible exact lz62 ‹_ ≤ 50› (by decide) | (simp; omega))
    have e : encP ((List.range (max a.length b.length)).map fun i => a.getD i 0 + b.getD i 0) = .list ((List.range (max a.length b.length)).map fun i => encQ (a.getD i 0 + b.getD i 0)) := by
      simp [encP]
    rw [e] at hs
    exact ArA.nil ⟨_, .val _, rfl, hs.le (show 1 ≤ 3 by decide), .inl rfl⟩

theorem BdP.qneg {n : Nat} {a : P} (ha : BdP n a) : BdP n (qneg a) := fun q hq => by
  obtain ⟨x, hx, rfl⟩ := List.mem_map.mp hq
  exact (ha x hx).neg
theorem list_get {α β : Type} {xs : List α} {g : α → β} {i : Nat} {w : β} (h : (xs.map g)[i]? = some w) : ∃ x, xs[i]? = some x ∧ w = g x := by
  rw [List.getElem?_map] at h
  cases hx : xs[i]? with
  | none => rw [hx] at h; cases h
  | some x => rw [hx] at h; cases h; exact ⟨x, rfl, rfl⟩
theorem rng_get {β : Type} {n : Nat} {g : Nat → β} {i : Nat} {w : β} (h : ((List.range n).map g)[i]? = some w) : ∃ j, j = i ∧ j < n ∧ w = g j := by
  obtain ⟨j, hj, e⟩ := list_get h
  obtain ⟨hl, he⟩ := List.getElem?_eq_some_iff.mp hj
  rw [List.getElem_range] at he
  rw [List.length_range] at hl
  exact ⟨j, he.symm, he ▸ hl, e⟩

theorem qneg_spec {C : Cx} (H : Facts C) {p : P} (hp : p.length ≤ 1000) : FnSpec C 2 (Str.ofString "qneg") [encP p] (.val (encP (qneg p))) := by
  refine FnSpec.intro (H.defs 19 _ dQneg.2) (by decide +kernel) (by decide +kernel) (by rfl) ?_ ?_
  · exact fun pm cd doc vs h => len1 h rfl fun _ => rfl
  intro env ok
  show ExA C _ dQneg.1.body [some (.val (encP p))] [] _
  have hat := (H.defs 12 _ dRneg.2).at
  refine ExA.cons' <| StA.ret <| JdW.frz <| EvA.compM 1 rfl (by decide +kernel) (by rfl) <| ItA.list <| EvA.name 0 rfl rfl ⟨_, rfl, [none, none, none], p.map fun x => encQ (-x), trivial, by simp, by simp, by simp [sizeLine]; omega, ?_, ?_⟩
  · intro env' ok' i w hw
    rw [List.map_map] at hw
    obtain ⟨x, hx, rfl⟩ := list_get hw
    exact EvA.call 2 rfl hat <| ArA.cons <| EvA.name 1 rfl rfl <| ArA.nil ⟨_, _, rfl, rneg_spec H x, ⟨_, rfl, rfl, rfl, by simp [hx]⟩⟩
  · intro l
    refine ⟨l, _, [], _, rfl, rfl, ?_⟩
    left
    simp [encP, qneg]

theorem qneg_length (p : P) : (qneg p).length = p.length := by simp [qneg]
theorem BdP.qsub {n m : Nat} {a b : P} (ha : BdP n a) (hb : BdP m b) (h1 : 1 ≤ n) (h2 : 1 ≤ m) : BdP (n + m + 1) (qsub a b) := ha.qadd hb.qneg h1 h2
theorem qsub_spec {C : Cx} (H : Facts C) {n m : Nat} {a b : P} (ha : BdP n a) (hb : BdP m b) (h1 : 1 ≤ n) (h2 : 1 ≤ m) (hn : n + m ≤ Lim) (la : a.length ≤ 1000) (lb : b.length ≤ 1000) :
    FnSpec C 5 (Str.ofString "qsub") [encP a, encP b] (.val (encP (qsub a b))) := by
  refine FnSpec.intro (H.defs 20 _ dQsub.2) (by decide +kernel) (by decide +kernel) (by rfl) ?_ ?_
  · exact fun pm cd doc vs h => len2 h rfl fun _ _ => rfl
  intro env ok
  show ExA C _ dQsub.1.body [some (.val (encP a)), some (.val (encP b)), none, none] [] _
  refine ExA.cons' <| StA.ret <| EvA.call 2 rfl (H.defs 18 _ dQadd.2).at <| ArA.cons <| EvA.name 0 rfl rfl <| ArA.cons <| EvA.call 3 rfl (H.defs 19 _ dQneg.2).at <| ArA.cons <| EvA.name 1 rfl rfl <| ArA.nil ⟨_, _, rfl, (qneg_spec H lb).le (show 2 ≤ 4 by decide), ArA.nil ⟨_, _, rfl, qadd_spec H ha hb.qneg h1 h2 hn la (by rw [qneg_length]; exact lb), .inl rfl⟩⟩

theorem BdP.qscale {n m : Nat} {p : P} {r : Rat} (hp : BdP n p) (hr : Bd m r) : BdP (n + m) (qscale p r) := fun q hq => by
  unfold Mine.qscale at hq
  split at hq
  · obtain ⟨x, hx, rfl⟩ := List.mem_map.mp hq
    exact (hp x hx).mul hr
  · cases hq
theorem qscale_spec {C : Cx} (H : Facts C) {n m : Nat} {p : P} {r : Rat} (hp : BdP n p) (hr : Bd m r) (hn : n + m ≤ Lim) (lp : p.length ≤ 1000) :
    FnSpec C 4 (Str.ofString "qscale") [encP p, encQ r] (.val (encP (qscale p r))) := by
  refine FnSpec.intro (H.defs 21 _ dQscale.2) (by decide +kernel) (by decide +kernel) (by rfl) ?_ ?_
  · exact fun pm cd doc vs h => len2 h rfl fun _ _ => rfl
  intro env ok
  show ExA C _ dQscale.1.body [some (.val (encP p)), some (.val (encQ r))] [] _
  refine ExA.cons' <| StA.ret <| EvA.ifexp <| TrA.cmp <| EvA.num 1 rfl rfl <| EvA.cint <| OpA.ne (by simp [PyData.depth]) ⟨_, rfl, ?_⟩
  rw [bool_not_eqv]
  by_cases h0 : r = 0
  · subst h0
    show EvA C _ _ _ _ _
    refine JdW.frz <| EvA.list <| ArA.nil ⟨_, rfl, by simp, fun l => ⟨l, _, [], _, rfl, rfl, ?_⟩⟩
    left
    simp [encP, qscale]
  · have hne : r.num ≠ 0 := num_ne h0
    rw [decide_eq_false hne]
    show EvA C _ _ _ _ _
    refine JdW.frz <| EvA.compM 1 rfl (by decide +kernel) (by rfl) <| ItA.list <| EvA.name 0 rfl rfl ⟨_, rfl, [none, none, none, some (.val (encQ r))], p.map fun x => encQ (x * r), ⟨⟨rfl, 1, rfl, rfl⟩, trivial⟩, by simp, by simp, by simp [sizeLine]; omega, ?_, ?_⟩
    · intro env' ok' i w hw
      rw [List.map_map] at hw
      obtain ⟨x, hx, rfl⟩ := list_get hw
      exact EvA.call 2 rfl (H.defs 10 _ dRmul.2).at <| ArA.cons <| EvA.name 1 rfl rfl <| ArA.cons <| EvA.name 3 rfl rfl <| ArA.nil ⟨_, _, rfl, rmul_spec H (hp x (List.mem_of_getElem? hx)) hr hn, ⟨_, rfl, rfl, rfl, by simp [hx]⟩⟩
    · intro l
      refine ⟨l, _, [], _, rfl, rfl, ?_⟩
      left
      simp [encP, qscale, h0]

theorem BdP.qraise {n : Nat} {p : P} {k : Nat} (hp : BdP n p) (h1 : 1 ≤ n) : BdP n (qraise p k) := fun q hq => by
  unfold Mine.qraise at hq
  split at hq
  · cases hq
  · rcases List.mem_append.mp hq with h | h
    · rw [(List.mem_replicate.mp h).2]; exact Bd.zero h1
    · exact hp q h
theorem flat_rep {α : Type} (n : Nat) (x : α) : (List.replicate n [x]).flatten = List.replicate n x := by
  induction n with
  | zero => rfl
  | succ n ih => simp [List.replicate_succ, ih]
theorem qraise_spec {C : Cx} (H : Facts C) {p : P} (k : Nat) (lp : p.length ≤ 1000) (lk : k ≤ 1000) :
    FnSpec C 1 (Str.ofString "qraise") [encP p, .int k] (.val (encP (qraise p k))) := by
  refine FnSpec.intro (H.defs 22 _ dQraise.2) (by decide +kernel) (by decide +kernel) (by rfl) ?_ ?_
  · exact fun pm cd doc vs h => len2 h rfl fun _ _ => rfl
  intro env ok
  show ExA C _ dQraise.1.body [some (.val (encP p)), some (.val (.int k)), none, none, none] [] _
  refine ExA.cons' <| StA.ret <| EvA.ifexp <| TrA.cmp <| EvA.callB 2 rfl H.b_len.1 H.b_len.2 <| ArA.cons <| EvA.name 0 rfl rfl <| ArA.nil <| ClA.len_list (.inl rfl) (by first | with_reducible exact lz ‹_ ≤ 400› (by decide) | with_reducible exact lz ‹_ ≤ 100› (by decide) | with_reducible exact lz ‹_ ≤ 50› (by decide) | with_reducible exact lz62 ‹_ ≤ 400› (by decide) | with_reducible exact lz62 ‹_ ≤ 100› (by decide) | with_reducible exact lz62 ‹_ ≤ 50› (by decide) | (simp; omega)) <| EvA.cint <| OpA.gt ⟨_, rfl, ?_⟩
  by_cases h0 : p = []
  · subst h0
    show EvA C _ _ _ _ _
    refine JdW.frz <| EvA.list <| ArA.nil ⟨_, rfl, by simp, fun l => ⟨l, _, [], _, rfl, rfl, ?_⟩⟩
    left
    simp [encP, qraise]
  · have hpos : 0 < p.length := List.length_pos_iff.mpr h0
    rw [decide_eq_true (by simpa using hpos)]
    show EvA C _ _ _ _ _
    refine JdW.frz <| EvA.bin <| JdW.frz <| EvA.bin <| JdW.frz <| EvA.list <| ArA.cons <| EvA.glob 3 rfl H.g_R0 <| ArA.nil ⟨_, rfl, by simp [sizeLine], fun l => ⟨l, _, [], _, rfl, rfl, ?_⟩⟩
    refine EvA.name 1 rfl rfl <| OpA.mulL (.inl rfl) (by first | with_reducible assumption | with_reducible exact Nat.le_trans ‹_ ≤ 400› (by decide) | with_reducible exact Nat.le_trans ‹_ ≤ 100› (by decide) | with_reducible exact Int.natCast_nonneg _ | with_reducible exact n62 _ | with_reducible exact l62 ‹_ ≤ 400› (by decide) | with_reducible exact l62 ‹_ ≤ 100› (by decide) | omega) (by first | with_reducible assumption | with_reducible exact Nat.le_trans ‹_ ≤ 400› (by decide) | with_reducible exact Nat.le_trans ‹_ ≤ 100› (by decide) | with_reducible exact Int.natCast_nonneg _ | with_reducible exact n62 _ | with_reducible exact l62 ‹_ ≤ 400› (by decide) | with_reducible exact l62 ‹_ ≤ 100› (by decide) | omega) (by first | with_reducible exact lz ‹_ ≤ 400› (by decide) | with_reducible exact lz ‹_ ≤ 100› (by decide) | with_reducible exact lz ‹_ ≤ 50› (by decide) | with_reducible exact lz62 ‹_ ≤ 400› (by decide) | with_reducible exact lz62 ‹_ ≤ 100› (by decide) | with_reducible exact lz62 ‹_ ≤ 50› (by decide) | (simp; omega)) fun l => ⟨l, _, [], _, rfl, rfl, ?_⟩
    refine JdW.frz <| EvA.callT 4 rfl H.b_list.1 H.b_list.2 <| ArA.cons <| EvA.name 0 rfl rfl <| ArA.nil <| ClA.list (.inl rfl) (by first | with_reducible exact lzs ‹_ ≤ 400› (by decide) | with_reducible exact lzs ‹_ ≤ 100› (by decide) | with_reducible exact lzs ‹_ ≤ 50› (by decide) | (simp [sizeLine]; omega)) fun l => ⟨l, _, [], _, rfl, rfl, ?_⟩
    refine OpA.addL (.inl rfl) (.inl rfl) (by first | with_reducible exact lzs ‹_ ≤ 400› (by decide) | with_reducible exact lzs ‹_ ≤ 100› (by decide) | with_reducible exact lzs ‹_ ≤ 50› (by decide) | (simp [sizeLine]; omega)) fun l => ⟨l, _, [], _, rfl, rfl, ?_⟩
    left
    simp [encP, qraise, h0, encQ_zero]
end Mine
end
section
open PySem PySem.W PySem.Calls PyProof.Rows
set_option linter.unusedVariables false
namespace Mine
set_option maxRecDepth 100000

noncomputable def dQmul : { x : DefText // nthDef 23 = some x } := ⟨_, rfl⟩
noncomputable def dQdivmod : { x : DefText // nthDef 24 = some x } := ⟨_, rfl⟩
noncomputable def dQmonic : { x : DefText // nthDef 25 = some x } := ⟨_, rfl⟩
noncomputable def dQgcd : { x : DefText // nthDef 26 = some x } := ⟨_, rfl⟩
noncomputable def dQat : { x : DefText // nthDef 27 = some x } := ⟨_, rfl⟩
noncomputable def dFromz : { x : DefText // nthDef 28 = some x } := ⟨_, rfl⟩

theorem set_map_encQ (F : P) (j : Nat) (q : Rat) : (F.map encQ).set j (encQ q) = (F.set j q).map encQ := by rw [List.map_set]
theorem BdP.set {n : Nat} {F : P} {q : Rat} (h : BdP n F) (hq : Bd n q) (j : Nat) : BdP n (F.set j q) := fun x hx => by
  rcases List.mem_or_eq_of_mem_set hx with h1 | h1
  · exact h x h1
  · rw [h1]; exact hq
theorem mulRow_length (i : Nat) (l : Rat) : ∀ (b : P) (j : Nat) (F : P), (mulRow i l j b F).length = F.length
  | [], _, _ => rfl
  | r :: rs, j, F => by simp [mulRow, mulRow_length i l rs]
theorem mulRows_length (b : P) : ∀ (a : P) (i : Nat) (F : P), (mulRows b i a F).length = F.length
  | [], _, _ => rfl
  | l :: ls, i, F => by simp [mulRows, mulRows_length b ls, mulRow_length]
theorem BdP.mulRow {n m : Nat} {l : Rat} (i : Nat) (hl : Bd n l) : ∀ (b : P), BdP m b → ∀ (j k : Nat) (F : P), 1 ≤ k → BdP k F → BdP (k + b.length * (n + m + 1)) (mulRow i l j b F)
  | [], _, _, _, _, _, h => by simpa [Mine.mulRow] using h
  | r :: rs, hb, j, k, F, hk, h => by
    have h1 : Bd (k + (n + m) + 1) (F.getD (i + j) 0 + l * r) := (h.getD hk _).add (hl.mul (hb r (.head _)))
    have := BdP.mulRow i hl rs (fun q hq => hb q (.tail _ hq)) (j + 1) (k + (n + m) + 1) (F.set (i + j) (F.getD (i + j) 0 + l * r)) (by first | with_reducible assumption | with_reducible exact Nat.le_trans ‹_ ≤ 400› (by decide) | with_reducible exact Nat.le_trans ‹_ ≤ 100› (by decide) | with_reducible exact Int.natCast_nonneg _ | with_reducible exact n62 _ | with_reducible exact l62 ‹_ ≤ 400› (by decide) | with_reducible exact l62 ‹_ ≤ 100› (by decide) | omega) ((h.mono (by first | with_reducible assumption | with_reducible exact Nat.le_trans ‹_ ≤ 400› (by decide) | with_reducible exact Nat.le_trans ‹_ ≤ 100› (by decide) | with_reducible exact Int.natCast_nonneg _ | with_reducible exact n62 _ | with_reducible exact l62 ‹_ ≤ 400› (by decide) | with_reducible exact l62 ‹_ ≤ 100› (by decide) | omega)).set h1 _)
    refine this.mono ?_
    simp only [List.length_cons, Nat.add_mul, Nat.one_mul]
    omega
theorem BdP.mulRows {n m : Nat} (b : P) (hb : BdP m b) : ∀ (a : P), BdP n a → ∀ (i k : Nat) (F : P), 1 ≤ k → BdP k F → BdP (k + a.length * (b.length * (n + m + 1))) (mulRows b i a F)
  | [], _, _, _, _, _, h => by simpa [Mine.mulRows] using h
  | l :: ls, ha, i, k, F, hk, h => by
    have h1 := BdP.mulRow i (ha l (.head _)) b hb 0 k F hk h
    have := BdP.mulRows b hb ls (fun q hq => ha q (.tail _ hq)) (i + 1) _ _ (by first | with_reducible assumption | with_reducible exact Nat.le_trans ‹_ ≤ 400› (by decide) | with_reducible exact Nat.le_trans ‹_ ≤ 100› (by decide) | with_reducible exact Int.natCast_nonneg _ | with_reducible exact n62 _ | with_reducible exact l62 ‹_ ≤ 400› (by decide) | with_reducible exact l62 ‹_ ≤ 100› (by decide) | omega) h1
    refine this.mono ?_
    simp only [List.length_cons, Nat.add_mul, Nat.one_mul]
    omega
theorem BdP.replicate {k n : Nat} (h : 1 ≤ k) : BdP k (List.replicate n 0) := fun q hq => by
  rw [(List.mem_replicate.mp hq).2]; exact Bd.zero h
theorem BdP.qmul {n m : Nat} {a b : P} (ha : BdP n a) (hb : BdP m b) : BdP (1 + a.length * (b.length * (n + m + 1))) (qmul a b) := by
  unfold Mine.qmul
  split
  · intro q hq; cases hq
  · exact BdP.mulRows b hb a ha 0 1 _ (Nat.le_refl _) (BdP.replicate (Nat.le_refl _))

theorem len_zero_iff (a : P) : decide (((List.map encQ a).length : Int) = 0) = decide (a = []) := by
  cases a <;> simp <;> omega
theorem drop_cons {α : Type} {a : List α} {i : Nat} {x : α} (h : a[i]? = some x) : a.drop i = x :: a.drop (i + 1) := by
  have hlt := (List.getElem?_eq_some_iff.mp h)
  rw [← hlt.2]; exact List.drop_eq_getElem_cons hlt.1
theorem encP_get {a : P} {i : Nat} {d : PyData} (h : (a.map encQ)[i]? = some d) : ∃ q, a[i]? = some q ∧ d = encQ q := list_get h

inductive JQmul (a b : P) (l : Addr) (n m : Nat) (i : Nat) (σ : Sg) (μ : Mu) : Prop
  | mk (o1 : Option WV) (o2 : Option WV) (o3 : Option WV) (o4 : Option WV) (F : P) (h1 : σ = [some (.val (encP a)), some (.val (encP b)), some (.adr l), o1, o2, o3, o4, none, none, none, none, none]) (h2 : μ = [(l, F.map encQ)]) (h3 : F.length = a.length + b.length - 1) (h4 : BdP (1 + i * (b.length * (n + m + 1))) F) (h5 : mulRows b i (a.drop i) F = mulRows b 0 a (List.replicate (a.length + b.length - 1) 0))
inductive JQmulRow (a b : P) (l : Addr) (n m i : Nat) (q : Rat) (F : P) (j : Nat) (σ : Sg) (μ : Mu) : Prop
  | mk (o3 : Option WV) (o4 : Option WV) (G : P) (h1 : σ = [some (.val (encP a)), some (.val (encP b)), some (.adr l), some (.val (.int i)), some (.val (encQ q)), o3, o4, none, none, none, none, none]) (h2 : μ = [(l, G.map encQ)]) (h3 : G.length = a.length + b.length - 1) (h4 : BdP (1 + i * (b.length * (n + m + 1)) + j * (n + m + 1)) G) (h5 : mulRow i q j (b.drop j) G = mulRow i q 0 b F)
theorem qmul_spec {C : Cx} (H : Facts C) {n m : Nat} {a b : P} (ha : BdP n a) (hb : BdP m b) (hn : 2 + a.length * (b.length * (n + m + 1)) + (n + m) ≤ Lim) (la : a.length ≤ 400) (lb : b.length ≤ 400) :
    FnSpec C 4 (Str.ofString "qmul") [encP a, encP b] (.val (encP (qmul a b))) := by
  refine FnSpec.intro (H.defs 23 _ dQmul.2) (by decide +kernel) (by decide +kernel) (by rfl) ?_ ?_
  · exact fun pm cd doc vs h => len2 h rfl fun _ _ => rfl
  intro env ok
  show ExA C _ dQmul.1.body [some (.val (encP a)), some (.val (encP b)), none, none, none, none, none, none, none, none, none, none] [] _
  have hra := (H.defs 8 _ dRadd.2).at
  have hrm := (H.defs 10 _ dRmul.2).at
  refine ExA.cons' <| StA.ite <| TrA.or_cons <| TrA.cmp <| EvA.callB 7 rfl H.b_len.1 H.b_len.2 <| ArA.cons <| EvA.name 0 rfl rfl <| ArA.nil <| ClA.len_list (.inl rfl) (by first | with_reducible exact lz ‹_ ≤ 400› (by decide) | with_reducible exact lz ‹_ ≤ 100› (by decide) | with_reducible exact lz ‹_ ≤ 50› (by decide) | with_reducible exact lz62 ‹_ ≤ 400› (by decide) | with_reducible exact lz62 ‹_ ≤ 100› (by decide) | with_reducible exact lz62 ‹_ ≤ 50› (by decide) | (simp; omega)) <| EvA.cint <| OpA.eq (by simp [PyData.depth]) ⟨_, rfl, ?_⟩
  rw [bool_not_eqv, len_zero_iff]
  by_cases ha0 : a = []
  · rw [decide_eq_true ha0]
    refine ExA.cons' <| StA.ret ?_
    refine JdW.frz <| EvA.list <| ArA.nil ⟨_, rfl, by simp, fun l => ⟨l, _, [], _, rfl, rfl, ?_⟩⟩
    left
    simp [encP, qmul, ha0]
  rw [decide_eq_false ha0]
  refine TrA.or_cons <| TrA.cmp <| EvA.callB 7 rfl H.b_len.1 H.b_len.2 <| ArA.cons <| EvA.name 1 rfl rfl <| ArA.nil <| ClA.len_list (.inl rfl) (by first | with_reducible exact lz ‹_ ≤ 400› (by decide) | with_reducible exact lz ‹_ ≤ 100› (by decide) | with_reducible exact lz ‹_ ≤ 50› (by decide) | with_reducible exact lz62 ‹_ ≤ 400› (by decide) | with_reducible exact lz62 ‹_ ≤ 100› (by decide) | with_reducible exact lz62 ‹_ ≤ 50› (by decide) | (simp; omega)) <| EvA.cint <| OpA.eq (by simp [PyData.depth]) ⟨_, rfl, ?_⟩
  rw [bool_not_eqv, len_zero_iff]
  by_cases hb0 : b = []
  · rw [decide_eq_true hb0]
    refine ExA.cons' <| StA.ret ?_
    refine JdW.frz <| EvA.list <| ArA.nil ⟨_, rfl, by simp, fun l => ⟨l, _, [], _, rfl, rfl, ?_⟩⟩
    left
    simp [encP, qmul, hb0]
  rw [decide_eq_false hb0]
  refine TrA.or_nil <| ExA.nil ?_
  have ha1 := List.length_pos_iff.mpr ha0
  have hb1 := List.length_pos_iff.mpr hb0
  refine ExA.cons <| StA.assignN 2 rfl (.inl rfl) <| EvA.bin <| JdW.frz <| EvA.list <| ArA.cons <| EvA.glob 8 rfl H.g_R0 <| ArA.nil ⟨_, rfl, by simp [sizeLine], fun l => ⟨l, _, [], _, rfl, rfl, ?_⟩⟩
  refine EvA.bin <| EvA.bin <| EvA.callB 7 rfl H.b_len.1 H.b_len.2 <| ArA.cons <| EvA.name 0 rfl rfl <| ArA.nil <| ClA.len_list (.inl rfl) (by first | with_reducible exact lz ‹_ ≤ 400› (by decide) | with_reducible exact lz ‹_ ≤ 100› (by decide) | with_reducible exact lz ‹_ ≤ 50› (by decide) | with_reducible exact lz62 ‹_ ≤ 400› (by decide) | with_reducible exact lz62 ‹_ ≤ 100› (by decide) | with_reducible exact lz62 ‹_ ≤ 50› (by decide) | (simp; omega)) <| EvA.callB 7 rfl H.b_len.1 H.b_len.2 <| ArA.cons <| EvA.name 1 rfl rfl <| ArA.nil <| ClA.len_list (.inl rfl) (by first | with_reducible exact lz ‹_ ≤ 400› (by decide) | with_reducible exact lz ‹_ ≤ 100› (by decide) | with_reducible exact lz ‹_ ≤ 50› (by decide) | with_reducible exact lz62 ‹_ ≤ 400› (by decide) | with_reducible exact lz62 ‹_ ≤ 100› (by decide) | with_reducible exact lz62 ‹_ ≤ 50› (by decide) | (simp; omega)) <| OpA.add <| EvA.cint <| OpA.sub <| OpA.mulL (.inl rfl) (by first | with_reducible exact lz ‹_ ≤ 400› (by decide) | with_reducible exact lz ‹_ ≤ 100› (by decide) | with_reducible exact lz ‹_ ≤ 50› (by decide) | with_reducible exact lz62 ‹_ ≤ 400› (by decide) | with_reducible exact lz62 ‹_ ≤ 100› (by decide) | with_reducible exact lz62 ‹_ ≤ 50› (by decide) | (simp; omega)) (by first | with_reducible exact lz ‹_ ≤ 400› (by decide) | with_reducible exact lz ‹_ ≤ 100› (by decide) | with_reducible exact lz ‹_ ≤ 50› (by decide) | with_reducible exact lz62 ‹_ ≤ 400› (by decide) | with_reducible exact lz62 ‹_ ≤ 100› (by decide) | with_reducible exact lz62 ‹_ ≤ 50› (by decide) | (simp; omega)) (by first | with_reducible exact lz ‹_ ≤ 400› (by decide) | with_reducible exact lz ‹_ ≤ 100› (by decide) | with_reducible exact lz ‹_ ≤ 50› (by decide) | with_reducible exact lz62 ‹_ ≤ 400› (by decide) | with_reducible exact lz62 ‹_ ≤ 100› (by decide) | with_reducible exact lz62 ‹_ ≤ 50› (by decide) | (simp; omega)) fun l => ⟨rfl, ?_⟩
  have e0 : (List.replicate (((List.map encQ a).length : Int) + ((List.map encQ b).length : Int) - 1).toNat [PyData.tuple [.int 0, .int 1]]).flatten = (List.replicate (a.length + b.length - 1) (0 : Rat)).map encQ := by
    rw [flat_rep, List.map_replicate, encQ_zero]; congr 1; exact tn_sub (by rw [List.length_map, List.length_map]; rfl) rfl
  rw [e0]
  refine ExA.cons <| StA.for <| ItA.enum 9 rfl H.b_enum.1 H.b_enum.2 <| EvA.name 0 rfl rfl ⟨_, rfl, ?_⟩
  refine ⟨(JQmul a b l n m), ⟨none, none, none, none, _, rfl, rfl, by simp, by simpa using BdP.replicate (Nat.le_refl 1), rfl⟩, ?_, ?_⟩
  · rintro i w σ μ hw ⟨o1, o2, o3, o4, F, rfl, rfl, hF, hB, hM⟩
    obtain ⟨d, hd, rfl⟩ := enumW_get hw
    obtain ⟨q, hq, rfl⟩ := encP_get hd
    have hi := (List.getElem?_eq_some_iff.mp hq).1
    have hbq := ha q (List.mem_of_getElem? hq)
    rw [drop_cons hq] at hM
    refine AgA.tup rfl <| AgA.name 3 rfl (.inl rfl) <| AgA.name 4 rfl (.inl rfl) ?_
    refine ExA.cons' <| StA.for <| ItA.enum 9 rfl H.b_enum.1 H.b_enum.2 <| EvA.name 1 rfl rfl ⟨_, rfl, ?_⟩
    refine ⟨(JQmulRow a b l n m i q F), ⟨_, _, F, rfl, rfl, hF, by simpa using hB, rfl⟩, ?_, ?_⟩
    · rintro j w σ μ hw ⟨o3, o4, G, rfl, rfl, hG, hBG, hMG⟩
      obtain ⟨d, hd, rfl⟩ := enumW_get hw
      obtain ⟨r, hr, rfl⟩ := encP_get hd
      have hj := (List.getElem?_eq_some_iff.mp hr).1
      have hbr := hb r (List.mem_of_getElem? hr)
      rw [drop_cons hr] at hMG
      have hlt : i + j < G.length := by omega
      have hget : G[i + j]? = some (G.getD (i + j) 0) := by simp [List.getD_eq_getElem?_getD, hlt]
      have hle : i * (b.length * (n + m + 1)) + j * (n + m + 1) + (n + m + 1) ≤ a.length * (b.length * (n + m + 1)) := by
        have h1 : (i + 1) * (b.length * (n + m + 1)) ≤ a.length * (b.length * (n + m + 1)) := Nat.mul_le_mul_right _ hi
        have h2 : (j + 1) * (n + m + 1) ≤ b.length * (n + m + 1) := Nat.mul_le_mul_right _ hj
        rw [Nat.add_mul, Nat.one_mul] at h1 h2
        omega
      have hbs := hBG.getD (by first | with_reducible assumption | with_reducible exact Nat.le_trans ‹_ ≤ 400› (by decide) | with_reducible exact Nat.le_trans ‹_ ≤ 100› (by decide) | with_reducible exact Int.natCast_nonneg _ | with_reducible exact n62 _ | with_reducible exact l62 ‹_ ≤ 400› (by decide) | with_reducible exact l62 ‹_ ≤ 100› (by decide) | omega) (i + j)
      have hk : ((i : Int) + (j : Int)) = ((i + j : Nat) : Int) := by omega
      refine AgA.tup rfl <| AgA.name 5 rfl (.inl rfl) <| AgA.name 6 rfl (.inl rfl) ?_
      refine ExA.cons' <| StA.assignS <| EvA.call 10 rfl hra <| ArA.cons <| EvA.sub <| EvA.name 2 rfl rfl <| EvA.bin <| EvA.name 3 rfl rfl <| EvA.name 5 rfl rfl <| OpA.add <| SubA.at (i + j) (.inr ⟨l, rfl, .head _⟩) hk (getQ hget) (by first | with_reducible exact lz ‹_ ≤ 400› (by decide) | with_reducible exact lz ‹_ ≤ 100› (by decide) | with_reducible exact lz ‹_ ≤ 50› (by decide) | with_reducible exact lz62 ‹_ ≤ 400› (by decide) | with_reducible exact lz62 ‹_ ≤ 100› (by decide) | with_reducible exact lz62 ‹_ ≤ 50› (by decide) | (simp; omega)) <|
        ArA.cons <| EvA.call 11 rfl hrm <| ArA.cons <| EvA.name 4 rfl rfl <| ArA.cons <| EvA.name 6 rfl rfl <| ArA.nil ⟨_, _, rfl, (rmul_spec H hbq hbr (by first | with_reducible assumption | with_reducible exact Nat.le_trans ‹_ ≤ 400› (by decide) | with_reducible exact Nat.le_trans ‹_ ≤ 100› (by decide) | with_reducible exact Int.natCast_nonneg _ | with_reducible exact n62 _ | with_reducible exact l62 ‹_ ≤ 400› (by decide) | with_reducible exact l62 ‹_ ≤ 100› (by decide) | omega)), ArA.nil ⟨_, _, rfl, radd_spec H hbs (hbq.mul hbr) (by first | with_reducible assumption | with_reducible exact Nat.le_trans ‹_ ≤ 400› (by decide) | with_reducible exact Nat.le_trans ‹_ ≤ 100› (by decide) | with_reducible exact Int.natCast_nonneg _ | with_reducible exact n62 _ | with_reducible exact l62 ‹_ ≤ 400› (by decide) | with_reducible exact l62 ‹_ ≤ 100› (by decide) | omega), ⟨_, rfl, ?_⟩⟩⟩
      refine EvA.name 2 rfl rfl <| EvA.bin <| EvA.name 3 rfl rfl <| EvA.name 5 rfl rfl <| OpA.add ⟨l, [], [], _, _, i + j, rfl, rfl, rfl, by omega, by simp; omega, ?_, ExA.nil ⟨_, _, G.set (i + j) (G.getD (i + j) 0 + q * r), rfl, ?_, by simpa using hG, ?_, hMG⟩⟩
      · rw [hk]; exact seqIndex_nat (by simpa using hlt)
      · rw [set_map_encQ]; rfl
      · refine (hBG.mono ?_).set ((hbs.add (hbq.mul hbr)).mono ?_) _
        · rw [Nat.add_mul]; omega
        · rw [Nat.add_mul]; omega
    · rintro σ μ ⟨o3, o4, G, rfl, rfl, hG, hBG, hMG⟩
      rw [enumW_length, List.length_map] at *
      rw [List.drop_length] at hMG
      refine ExA.nil ⟨_, _, _, _, G, rfl, rfl, hG, hBG.mono (by rw [Nat.add_mul]; omega), ?_⟩
      rw [← hM]
      show _ = mulRows b (i + 1) (a.drop (i + 1)) (mulRow i q 0 b F)
      rw [← hMG]; rfl
  · rintro σ μ ⟨o1, o2, o3, o4, F, rfl, rfl, hF, hB, hM⟩
    rw [enumW_length, List.length_map, List.drop_length] at hM
    refine ⟨rfl, ?_⟩
    refine ExA.cons' <| StA.ret <| JdW.frz <| EvA.name 2 rfl rfl ⟨l, _, [], _, rfl, rfl, ?_⟩
    left
    have e : qmul a b = F := by
      unfold qmul
      rw [if_neg (by simp [ha0, hb0]), ← hM]; rfl
    rw [e]; rfl
end Mine
end
section
open PySem PySem.W PySem.Calls PyProof.Rows
set_option linter.unusedVariables false
namespace Mine
set_option maxRecDepth 100000

/-! ### no zero at the end -/
noncomputable def Tr (p : P) : Prop := p ≠ [] → p.getLastD 0 ≠ 0
theorem Tr.nil : Tr [] := fun h => absurd rfl h
theorem Tr.trim (p : P) : Tr (trim 0 p) := by
  induction p with
  | nil => exact Tr.nil
  | cons a r ih =>
    simp only [Mine.trim]
    split
    · exact Tr.nil
    · rename_i h
      intro _
      cases e : Mine.trim 0 r with
      | nil =>
        simp [e] at h
        simpa using h
      | cons b t =>
        have := ih (by rw [e]; simp)
        rw [e] at this
        simpa using this
theorem Tr.qadd (a b : P) : Tr (qadd a b) := Tr.trim _
theorem Tr.qsub (a b : P) : Tr (qsub a b) := Tr.trim _
theorem getLastD_map (p : P) (r : Rat) : (p.map fun x => x * r).getLastD 0 = p.getLastD 0 * r := by
  rcases List.eq_nil_or_concat p with rfl | ⟨q, x, rfl⟩
  · simp
  · simp [List.concat_eq_append, List.getLastD_eq_getLast?]
theorem Tr.qscale {p : P} (hp : Tr p) (r : Rat) : Tr (qscale p r) := by
  unfold Mine.qscale
  split
  · intro h
    rw [getLastD_map]
    rename_i hr
    exact fun e => (Rat.mul_eq_zero.mp e).elim (hp (by simpa using h)) hr
  · exact Tr.nil
theorem qadd_length (a b : P) : (qadd a b).length ≤ max a.length b.length := by
  have := trim_length 0 ((List.range (max a.length b.length)).map fun i => a.getD i 0 + b.getD i 0)
  simpa [qadd, addL] using this
theorem qsub_length (a b : P) : (qsub a b).length ≤ max a.length b.length := by
  have := qadd_length a (qneg b)
  rwa [qneg_length] at this
theorem qscale_length (p : P) (r : Rat) : (qscale p r).length ≤ p.length := by
  unfold qscale; split <;> simp
theorem qraise_length (p : P) (k : Nat) : (qraise p k).length ≤ k + p.length := by
  unfold qraise; split <;> simp

/-- the next rest -/
noncomputable def nextRest (b rest : P) : P := qsub rest.dropLast (qraise (qscale b.dropLast (rest.getLastD 0 / b.getLastD 0)) (rest.length - b.length))
theorem nextRest_length {b rest : P} (hb : 1 ≤ b.length) (h : b.length ≤ rest.length) : (nextRest b rest).length ≤ rest.length - 1 := by
  refine Nat.le_trans (qsub_length _ _) ?_
  have h1 := qraise_length (qscale b.dropLast (rest.getLastD 0 / b.getLastD 0)) (rest.length - b.length)
  have h2 := qscale_length b.dropLast (rest.getLastD 0 / b.getLastD 0)
  rw [List.length_dropLast] at h2 ⊢
  omega
theorem Bd.last {n : Nat} {p : P} (h : BdP n p) (hn : 1 ≤ n) : Bd n (p.getLastD 0) := by
  rcases List.eq_nil_or_concat p with rfl | ⟨q, x, rfl⟩
  · exact Bd.zero hn
  · exact h _ (by simp [List.concat_eq_append, List.getLastD_eq_getLast?])
theorem BdP.dropLast {n : Nat} {p : P} (h : BdP n p) : BdP n p.dropLast := fun q hq => h q ((List.dropLast_sublist p).subset hq)
theorem BdP.nextRest {n m : Nat} {b rest : P} (hr : BdP n rest) (hb : BdP m b) (h1 : 1 ≤ n) (h2 : 1 ≤ m) (h0 : b.getLastD 0 ≠ 0) : BdP (2 * n + 2 * m + 1) (nextRest b rest) := by
  have := hr.dropLast.qsub (BdP.qraise (k := rest.length - b.length) ((hb.dropLast).qscale ((Bd.last hr h1).div (Bd.last hb h2) h0)) (by first | with_reducible assumption | with_reducible exact Nat.le_trans ‹_ ≤ 400› (by decide) | with_reducible exact Nat.le_trans ‹_ ≤ 100› (by decide) | with_reducible exact Int.natCast_nonneg _ | with_reducible exact n62 _ | with_reducible exact l62 ‹_ ≤ 400› (by decide) | with_reducible exact l62 ‹_ ≤ 100› (by decide) | omega)) h1 (by first | with_reducible assumption | with_reducible exact Nat.le_trans ‹_ ≤ 400› (by decide) | with_reducible exact Nat.le_trans ‹_ ≤ 100› (by decide) | with_reducible exact Int.natCast_nonneg _ | with_reducible exact n62 _ | with_reducible exact l62 ‹_ ≤ 400› (by decide) | with_reducible exact l62 ‹_ ≤ 100› (by decide) | omega)
  exact this.mono (by first | with_reducible assumption | with_reducible exact Nat.le_trans ‹_ ≤ 400› (by decide) | with_reducible exact Nat.le_trans ‹_ ≤ 100› (by decide) | with_reducible exact Int.natCast_nonneg _ | with_reducible exact n62 _ | with_reducible exact l62 ‹_ ≤ 400› (by decide) | with_reducible exact l62 ‹_ ≤ 100› (by decide) | omega)

noncomputable def dvB (m : Nat) : Nat → Nat → Nat
  | 0, n => n
  | t + 1, n => dvB m t (2 * n + 2 * m + 1)
theorem dvB_step (m : Nat) : ∀ t n, dvB m t n ≤ dvB m (t + 1) n
  | 0, n => by simp only [dvB]; omega
  | t + 1, n => dvB_step m t (2 * n + 2 * m + 1)
theorem dvB_mono (m : Nat) {t t' : Nat} (n : Nat) (h : t ≤ t') : dvB m t n ≤ dvB m t' n := by
  induction h with
  | refl => exact Nat.le_refl _
  | step _ ih => exact Nat.le_trans ih (dvB_step m _ n)
theorem dvB_ge (m t n : Nat) : n ≤ dvB m t n := dvB_mono m n (Nat.zero_le t)
theorem dvB_eq (m : Nat) : ∀ t n, dvB m t n + (2 * m + 1) = 2 ^ t * (n + (2 * m + 1))
  | 0, n => by simp [dvB]
  | t + 1, n => by
    rw [dvB, dvB_eq m t, Nat.pow_succ, Nat.mul_assoc]; congr 1; omega
theorem dvB_le {m n k t : Nat} (h1 : n ≤ k) (h2 : m ≤ k) (hk : 1 ≤ k) : dvB m t n ≤ 2 ^ t * (4 * k) := by
  have := dvB_eq m t n
  have h3 : 2 ^ t * (n + (2 * m + 1)) ≤ 2 ^ t * (4 * k) := Nat.mul_le_mul_left _ (by first | with_reducible assumption | with_reducible exact Nat.le_trans ‹_ ≤ 400› (by decide) | with_reducible exact Nat.le_trans ‹_ ≤ 100› (by decide) | with_reducible exact Int.natCast_nonneg _ | with_reducible exact n62 _ | with_reducible exact l62 ‹_ ≤ 400› (by decide) | with_reducible exact l62 ‹_ ≤ 100› (by decide) | omega)
  omega

theorem divLoop_rest {b : P} {m : Nat} (hb : 1 ≤ b.length) (h0 : b.getLastD 0 ≠ 0) (hbd : BdP m b) (hm : 1 ≤ m) : ∀ (f : Nat) (rest found : P) (n : Nat), rest.length ≤ f → Tr rest → BdP n rest → 1 ≤ n →
    (divLoop b f rest found).2.length < b.length ∧ Tr (divLoop b f rest found).2 ∧ BdP (dvB m (rest.length + 1 - b.length) n) (divLoop b f rest found).2
  | 0, rest, found, n, hf, ht, hn, h1 => by
    refine ⟨?_, ht, hn.mono (dvB_ge _ _ _)⟩
    show rest.length < _
    omega
  | f + 1, rest, found, n, hf, ht, hn, h1 => by
    by_cases hl : b.length ≤ rest.length
    · have hlen := nextRest_length hb hl
      have e : divLoop b (f + 1) rest found = divLoop b f (nextRest b rest) (found.set (rest.length - b.length) (rest.getLastD 0 / b.getLastD 0)) := by
        simp only [divLoop, if_pos hl]; rfl
      rw [e]
      obtain ⟨g1, g2, g3⟩ := divLoop_rest hb h0 hbd hm f (nextRest b rest) (found.set (rest.length - b.length) (rest.getLastD 0 / b.getLastD 0)) (2 * n + 2 * m + 1) (by first | with_reducible assumption | with_reducible exact Nat.le_trans ‹_ ≤ 400› (by decide) | with_reducible exact Nat.le_trans ‹_ ≤ 100› (by decide) | with_reducible exact Int.natCast_nonneg _ | with_reducible exact n62 _ | with_reducible exact l62 ‹_ ≤ 400› (by decide) | with_reducible exact l62 ‹_ ≤ 100› (by decide) | omega) (Tr.qsub _ _) (hn.nextRest hbd h1 hm h0) (by first | with_reducible assumption | with_reducible exact Nat.le_trans ‹_ ≤ 400› (by decide) | with_reducible exact Nat.le_trans ‹_ ≤ 100› (by decide) | with_reducible exact Int.natCast_nonneg _ | with_reducible exact n62 _ | with_reducible exact l62 ‹_ ≤ 400› (by decide) | with_reducible exact l62 ‹_ ≤ 100› (by decide) | omega)
      refine ⟨g1, g2, g3.mono ?_⟩
      have e2 : rest.length + 1 - b.length = (rest.length - b.length) + 1 := by omega
      rw [e2, dvB]
      exact dvB_mono m _ (by first | with_reducible assumption | with_reducible exact Nat.le_trans ‹_ ≤ 400› (by decide) | with_reducible exact Nat.le_trans ‹_ ≤ 100› (by decide) | with_reducible exact Int.natCast_nonneg _ | with_reducible exact n62 _ | with_reducible exact l62 ‹_ ≤ 400› (by decide) | with_reducible exact l62 ‹_ ≤ 100› (by decide) | omega)
    · have e : divLoop b (f + 1) rest found = (found, rest) := by simp only [divLoop, if_neg hl]
      rw [e]
      exact ⟨by show rest.length < b.length; omega, ht, hn.mono (dvB_ge _ _ _)⟩

noncomputable def encF (f : Fr2) : PyData := .tuple [encP f.1, encP f.2]
theorem getLast?_map_encQ {p : P} (h : 1 ≤ p.length) : (p.map encQ).getLast? = some (encQ (p.getLastD 0)) := by
  rcases List.eq_nil_or_concat p with rfl | ⟨q, x, rfl⟩
  · simp at h
  · simp [List.concat_eq_append, List.getLastD_eq_getLast?]
theorem map_dropLast {p : P} : (p.map encQ).dropLast = p.dropLast.map encQ := by rw [List.map_dropLast]
theorem max0 (a b : Nat) : (if ((a : Int) - (b : Int) + 1) > (0 : Int) then (a : Int) - b + 1 else 0) = ((a + 1 - b : Nat) : Int) := by split <;> omega

inductive JDivmod (a b : P) (l : Addr) (m : Nat) (f : Nat) (σ : Sg) (μ : Mu) : Prop
  | mk (rest : P) (F : P) (o1 : Option WV) (o2 : Option WV) (o3 : Option WV) (k : Nat) (h1 : σ = [some (.val (encP a)), some (.val (encP b)), some (.val (encP rest)), some (.adr l), o1, o2, o3, none, none, none, none, none, none, none, none, none, none]) (h2 : μ = [(l, F.map encQ)]) (h3 : rest.length ≤ f) (h4 : rest.length ≤ a.length) (h5 : F.length = a.length + 1 - b.length) (h6 : BdP k rest) (h7 : 1 ≤ k) (h8 : dvB m (rest.length + 1 - b.length) k ≤ Lim) (h9 : divLoop b f rest F = divLoop b a.length a (List.replicate (a.length + 1 - b.length) 0))
theorem qdivmod_spec {C : Cx} (H : Facts C) {n m : Nat} {a b : P} (ha : BdP n a) (hb : BdP m b) (h1 : 1 ≤ n) (h2 : 1 ≤ m) (hn : dvB m (a.length + 1 - b.length) n ≤ Lim) (la : a.length ≤ 400) (lb : b.length ≤ 400) (hb1 : 1 ≤ b.length) (h0 : b.getLastD 0 ≠ 0) :
    FnSpec C 6 (Str.ofString "qdivmod") [encP a, encP b] (.val (encF (qdivmod a b))) := by
  refine FnSpec.intro (H.defs 24 _ dQdivmod.2) (by decide +kernel) (by decide +kernel) (by rfl) ?_ ?_
  · exact fun pm cd doc vs h => len2 h rfl fun _ _ => rfl
  intro env ok
  show ExA C _ dQdivmod.1.body [some (.val (encP a)), some (.val (encP b)), none, none, none, none, none, none, none, none, none, none, none, none, none, none, none] [] _
  refine ExA.cons <| StA.ite <| TrA.cmp <| EvA.callB 7 rfl H.b_len.1 H.b_len.2 <| ArA.cons <| EvA.name 1 rfl rfl <| ArA.nil <| ClA.len_list (.inl rfl) (by first | with_reducible exact lz ‹_ ≤ 400› (by decide) | with_reducible exact lz ‹_ ≤ 100› (by decide) | with_reducible exact lz ‹_ ≤ 50› (by decide) | with_reducible exact lz62 ‹_ ≤ 400› (by decide) | with_reducible exact lz62 ‹_ ≤ 100› (by decide) | with_reducible exact lz62 ‹_ ≤ 50› (by decide) | (simp; omega)) <| EvA.cint <| OpA.eq (by simp [PyData.depth]) ⟨_, rfl, ?_⟩
  rw [bool_not_eqv, len_zero_iff, decide_eq_false (by intro e; rw [e] at hb1; simp at hb1)]
  refine ExA.nil ⟨rfl, ?_⟩
  refine ExA.cons <| StA.assignW 2 3 rfl rfl (EvA.two <| ArA.cons <| JdW.frz <| EvA.callT 9 rfl H.b_list.1 H.b_list.2 <| ArA.cons <| EvA.name 0 rfl rfl <| ArA.nil <| ClA.list (.inl rfl) (by first | with_reducible exact lzs ‹_ ≤ 400› (by decide) | with_reducible exact lzs ‹_ ≤ 100› (by decide) | with_reducible exact lzs ‹_ ≤ 50› (by decide) | (simp [sizeLine]; omega)) fun l => ⟨l, _, [], _, rfl, rfl, ?_⟩) (swapped_yes (i := 2) (j := 3) rfl rfl (by decide) rfl rfl rfl rfl)
  refine ArA.cons <| EvA.bin <| JdW.frz <| EvA.list <| ArA.cons <| EvA.glob 10 rfl H.g_R0 <| ArA.nil ⟨_, rfl, by simp [sizeLine], fun l => ⟨l, _, [], _, rfl, rfl, ?_⟩⟩
  refine EvA.callB 11 rfl H.b_max.1 H.b_max.2 <| ArA.cons <| EvA.cint <| ArA.cons <| EvA.bin <| EvA.bin <| EvA.callB 7 rfl H.b_len.1 H.b_len.2 <| ArA.cons <| EvA.name 0 rfl rfl <| ArA.nil <| ClA.len_list (.inl rfl) (by first | with_reducible exact lz ‹_ ≤ 400› (by decide) | with_reducible exact lz ‹_ ≤ 100› (by decide) | with_reducible exact lz ‹_ ≤ 50› (by decide) | with_reducible exact lz62 ‹_ ≤ 400› (by decide) | with_reducible exact lz62 ‹_ ≤ 100› (by decide) | with_reducible exact lz62 ‹_ ≤ 50› (by decide) | (simp; omega)) <| EvA.callB 7 rfl H.b_len.1 H.b_len.2 <| ArA.cons <| EvA.name 1 rfl rfl <| ArA.nil <| ClA.len_list (.inl rfl) (by first | with_reducible exact lz ‹_ ≤ 400› (by decide) | with_reducible exact lz ‹_ ≤ 100› (by decide) | with_reducible exact lz ‹_ ≤ 50› (by decide) | with_reducible exact lz62 ‹_ ≤ 400› (by decide) | with_reducible exact lz62 ‹_ ≤ 100› (by decide) | with_reducible exact lz62 ‹_ ≤ 50› (by decide) | (simp; omega)) <| OpA.sub <| EvA.cint <| OpA.add <| ArA.nil <| ClA.max ?_
  rw [List.length_map, List.length_map, max0]
  refine OpA.mulL (.inl rfl) (by first | with_reducible assumption | with_reducible exact Nat.le_trans ‹_ ≤ 400› (by decide) | with_reducible exact Nat.le_trans ‹_ ≤ 100› (by decide) | with_reducible exact Int.natCast_nonneg _ | with_reducible exact n62 _ | with_reducible exact l62 ‹_ ≤ 400› (by decide) | with_reducible exact l62 ‹_ ≤ 100› (by decide) | omega) (by first | with_reducible assumption | with_reducible exact Nat.le_trans ‹_ ≤ 400› (by decide) | with_reducible exact Nat.le_trans ‹_ ≤ 100› (by decide) | with_reducible exact Int.natCast_nonneg _ | with_reducible exact n62 _ | with_reducible exact l62 ‹_ ≤ 400› (by decide) | with_reducible exact l62 ‹_ ≤ 100› (by decide) | omega) (by first | with_reducible exact lz ‹_ ≤ 400› (by decide) | with_reducible exact lz ‹_ ≤ 100› (by decide) | with_reducible exact lz ‹_ ≤ 50› (by decide) | with_reducible exact lz62 ‹_ ≤ 400› (by decide) | with_reducible exact lz62 ‹_ ≤ 100› (by decide) | with_reducible exact lz62 ‹_ ≤ 50› (by decide) | (simp; omega)) fun l => ArA.nil ⟨_, _, rfl, _, _, rfl, rfl, ?_⟩
  have e0 : (List.replicate ((a.length + 1 - b.length : Nat) : Int).toNat [PyData.tuple [.int 0, .int 1]]).flatten = (List.replicate (a.length + 1 - b.length) (0 : Rat)).map encQ := by
    rw [flat_rep, List.map_replicate, encQ_zero]; congr 1
  rw [e0]
  refine ExA.cons' <| StA.while ((JDivmod a b l m)) a.length ⟨a, _, none, none, none, n, rfl, rfl, Nat.le_refl _, Nat.le_refl _, by simp, ha, h1, hn, rfl⟩ ?_
  rintro f σ μ ⟨rest, F, o1, o2, o3, k, rfl, rfl, hf, hra, hF, hk, k1, hL, hD⟩
  refine TrA.cmp <| EvA.callB 7 rfl H.b_len.1 H.b_len.2 <| ArA.cons <| EvA.name 2 rfl rfl <| ArA.nil <| ClA.len_list (.inl rfl) (by first | with_reducible exact lz ‹_ ≤ 400› (by decide) | with_reducible exact lz ‹_ ≤ 100› (by decide) | with_reducible exact lz ‹_ ≤ 50› (by decide) | with_reducible exact lz62 ‹_ ≤ 400› (by decide) | with_reducible exact lz62 ‹_ ≤ 100› (by decide) | with_reducible exact lz62 ‹_ ≤ 50› (by decide) | (simp; omega)) <| EvA.callB 7 rfl H.b_len.1 H.b_len.2 <| ArA.cons <| EvA.name 1 rfl rfl <| ArA.nil <| ClA.len_list (.inl rfl) (by first | with_reducible exact lz ‹_ ≤ 400› (by decide) | with_reducible exact lz ‹_ ≤ 100› (by decide) | with_reducible exact lz ‹_ ≤ 50› (by decide) | with_reducible exact lz62 ‹_ ≤ 400› (by decide) | with_reducible exact lz62 ‹_ ≤ 100› (by decide) | with_reducible exact lz62 ‹_ ≤ 50› (by decide) | (simp; omega)) <| OpA.ge ⟨_, rfl, ?_⟩
  rw [List.length_map, List.length_map]
  by_cases hl : b.length ≤ rest.length
  · rw [decide_eq_true (by first | with_reducible assumption | with_reducible exact Nat.le_trans ‹_ ≤ 400› (by decide) | with_reducible exact Nat.le_trans ‹_ ≤ 100› (by decide) | with_reducible exact Int.natCast_nonneg _ | with_reducible exact n62 _ | with_reducible exact l62 ‹_ ≤ 400› (by decide) | with_reducible exact l62 ‹_ ≤ 100› (by decide) | omega)]
    obtain ⟨f', rfl⟩ : ∃ f', f = f' + 1 := ⟨f - 1, by omega⟩
    have e2 : rest.length + 1 - b.length = (rest.length - b.length) + 1 := by omega
    have hL2 : 2 * k + 2 * m + 1 ≤ Lim := Nat.le_trans (by rw [e2, dvB]; exact dvB_ge _ _ _) hL
    have hlen := nextRest_length hb1 hl
    have hkl := Bd.last hk k1
    have hbl := Bd.last hb h2
    have hnum := hkl.div hbl h0
    have hr1 : 1 ≤ rest.length := by omega
    have epow : ((rest.length : Int) - (b.length : Int)) = ((rest.length - b.length : Nat) : Int) := by omega
    refine ExA.cons <| StA.assignW 4 5 rfl rfl (EvA.tuple <| ArA.cons <| EvA.call 12 rfl (H.defs 11 _ dRdiv.2).at <| ArA.cons <| EvA.sub <| EvA.name 2 rfl rfl <| EvA.un <| EvA.cint <| Op1.neg <| SubA.last (.inl rfl) (getLast?_map_encQ hr1) (by first | with_reducible exact lz ‹_ ≤ 400› (by decide) | with_reducible exact lz ‹_ ≤ 100› (by decide) | with_reducible exact lz ‹_ ≤ 50› (by decide) | with_reducible exact lz62 ‹_ ≤ 400› (by decide) | with_reducible exact lz62 ‹_ ≤ 100› (by decide) | with_reducible exact lz62 ‹_ ≤ 50› (by decide) | (simp; omega)) <|
      ArA.cons <| EvA.sub <| EvA.name 1 rfl rfl <| EvA.un <| EvA.cint <| Op1.neg <| SubA.last (.inl rfl) (getLast?_map_encQ hb1) (by first | with_reducible exact lz ‹_ ≤ 400› (by decide) | with_reducible exact lz ‹_ ≤ 100› (by decide) | with_reducible exact lz ‹_ ≤ 50› (by decide) | with_reducible exact lz62 ‹_ ≤ 400› (by decide) | with_reducible exact lz62 ‹_ ≤ 100› (by decide) | with_reducible exact lz62 ‹_ ≤ 50› (by decide) | (simp; omega)) <| ArA.nil ⟨_, _, rfl, (rdiv_spec H hkl hbl (by first | with_reducible assumption | with_reducible exact Nat.le_trans ‹_ ≤ 400› (by decide) | with_reducible exact Nat.le_trans ‹_ ≤ 100› (by decide) | with_reducible exact Int.natCast_nonneg _ | with_reducible exact n62 _ | with_reducible exact l62 ‹_ ≤ 400› (by decide) | with_reducible exact l62 ‹_ ≤ 100› (by decide) | omega) h0).le (show 3 ≤ 5 by decide), ?_⟩) (swapped_yes (i := 4) (j := 5) rfl rfl (by decide) rfl rfl rfl rfl)
    refine ArA.cons <| EvA.bin <| EvA.callB 7 rfl H.b_len.1 H.b_len.2 <| ArA.cons <| EvA.name 2 rfl rfl <| ArA.nil <| ClA.len_list (.inl rfl) (by first | with_reducible exact lz ‹_ ≤ 400› (by decide) | with_reducible exact lz ‹_ ≤ 100› (by decide) | with_reducible exact lz ‹_ ≤ 50› (by decide) | with_reducible exact lz62 ‹_ ≤ 400› (by decide) | with_reducible exact lz62 ‹_ ≤ 100› (by decide) | with_reducible exact lz62 ‹_ ≤ 50› (by decide) | (simp; omega)) <| EvA.callB 7 rfl H.b_len.1 H.b_len.2 <| ArA.cons <| EvA.name 1 rfl rfl <| ArA.nil <| ClA.len_list (.inl rfl) (by first | with_reducible exact lz ‹_ ≤ 400› (by decide) | with_reducible exact lz ‹_ ≤ 100› (by decide) | with_reducible exact lz ‹_ ≤ 50› (by decide) | with_reducible exact lz62 ‹_ ≤ 400› (by decide) | with_reducible exact lz62 ‹_ ≤ 100› (by decide) | with_reducible exact lz62 ‹_ ≤ 50› (by decide) | (simp; omega)) <| OpA.sub <| ArA.nil ⟨_, rfl, by simp [sizeLine], _, _, rfl, rfl, ?_⟩
    rw [List.length_map, List.length_map, epow]
    refine ExA.cons <| StA.assignS <| EvA.name 4 rfl rfl ⟨_, rfl, EvA.name 3 rfl rfl <| EvA.name 5 rfl rfl ⟨l, [], [], _, _, rest.length - b.length, rfl, rfl, rfl, by omega, by simp; omega, seqIndex_nat (by first | with_reducible exact lz ‹_ ≤ 400› (by decide) | with_reducible exact lz ‹_ ≤ 100› (by decide) | with_reducible exact lz ‹_ ≤ 50› (by decide) | with_reducible exact lz62 ‹_ ≤ 400› (by decide) | with_reducible exact lz62 ‹_ ≤ 100› (by decide) | with_reducible exact lz62 ‹_ ≤ 50› (by decide) | (simp; omega)), rfl, ?_⟩⟩
    have hsc := (hb.dropLast).qscale hnum
    refine ExA.cons <| StA.assignN 6 rfl (.inl rfl) <| EvA.call 13 rfl (H.defs 20 _ dQsub.2).at <| ArA.cons <| JdW.frz <| EvA.slice <| EvA.name 2 rfl rfl <| PtA.no <| PtA.yes <| EvA.un <| EvA.cint <| Op1.neg ⟨_, rfl, _, .inl rfl, by simp [sizeLine]; omega, fun l2 => ⟨l2, _, [], _, rfl, rfl, ?_⟩⟩
    rw [pick_neg1, map_dropLast]
    refine ArA.cons <| EvA.call 14 rfl (H.defs 22 _ dQraise.2).at <| ArA.cons <| EvA.call 15 rfl (H.defs 21 _ dQscale.2).at <| ArA.cons <| JdW.frz <| EvA.slice <| EvA.name 1 rfl rfl <| PtA.no <| PtA.yes <| EvA.un <| EvA.cint <| Op1.neg ⟨_, rfl, _, .inl rfl, by simp [sizeLine]; omega, fun l2 => ⟨l2, _, [], _, rfl, rfl, ?_⟩⟩
    rw [pick_neg1, map_dropLast]
    have lq := qscale_length b.dropLast (rest.getLastD 0 / b.getLastD 0)
    have lr := qraise_length (qscale b.dropLast (rest.getLastD 0 / b.getLastD 0)) (rest.length - b.length)
    have ld : b.dropLast.length ≤ b.length := by simp
    refine ArA.cons <| EvA.name 4 rfl rfl <| ArA.nil ⟨_, _, rfl, (qscale_spec H hb.dropLast hnum (by first | with_reducible assumption | with_reducible exact Nat.le_trans ‹_ ≤ 400› (by decide) | with_reducible exact Nat.le_trans ‹_ ≤ 100› (by decide) | with_reducible exact Int.natCast_nonneg _ | with_reducible exact n62 _ | with_reducible exact l62 ‹_ ≤ 400› (by decide) | with_reducible exact l62 ‹_ ≤ 100› (by decide) | omega) (by first | with_reducible assumption | with_reducible exact Nat.le_trans ‹_ ≤ 400› (by decide) | with_reducible exact Nat.le_trans ‹_ ≤ 100› (by decide) | with_reducible exact Int.natCast_nonneg _ | with_reducible exact n62 _ | with_reducible exact l62 ‹_ ≤ 400› (by decide) | with_reducible exact l62 ‹_ ≤ 100› (by decide) | omega)).le (show 4 ≤ 5 by decide), ?_⟩
    refine ArA.cons <| EvA.name 5 rfl rfl <| ArA.nil ⟨_, _, rfl, (qraise_spec H (rest.length - b.length) (by first | with_reducible assumption | with_reducible exact Nat.le_trans ‹_ ≤ 400› (by decide) | with_reducible exact Nat.le_trans ‹_ ≤ 100› (by decide) | with_reducible exact Int.natCast_nonneg _ | with_reducible exact n62 _ | with_reducible exact l62 ‹_ ≤ 400› (by decide) | with_reducible exact l62 ‹_ ≤ 100› (by decide) | omega) (by first | with_reducible assumption | with_reducible exact Nat.le_trans ‹_ ≤ 400› (by decide) | with_reducible exact Nat.le_trans ‹_ ≤ 100› (by decide) | with_reducible exact Int.natCast_nonneg _ | with_reducible exact n62 _ | with_reducible exact l62 ‹_ ≤ 400› (by decide) | with_reducible exact l62 ‹_ ≤ 100› (by decide) | omega)).le (show 1 ≤ 5 by decide), ?_⟩
    refine ArA.nil ⟨_, _, rfl, qsub_spec H hk.dropLast (hsc.qraise (by first | with_reducible assumption | with_reducible exact Nat.le_trans ‹_ ≤ 400› (by decide) | with_reducible exact Nat.le_trans ‹_ ≤ 100› (by decide) | with_reducible exact Int.natCast_nonneg _ | with_reducible exact n62 _ | with_reducible exact l62 ‹_ ≤ 400› (by decide) | with_reducible exact l62 ‹_ ≤ 100› (by decide) | omega)) k1 (by first | with_reducible assumption | with_reducible exact Nat.le_trans ‹_ ≤ 400› (by decide) | with_reducible exact Nat.le_trans ‹_ ≤ 100› (by decide) | with_reducible exact Int.natCast_nonneg _ | with_reducible exact n62 _ | with_reducible exact l62 ‹_ ≤ 400› (by decide) | with_reducible exact l62 ‹_ ≤ 100› (by decide) | omega) (by first | with_reducible assumption | with_reducible exact Nat.le_trans ‹_ ≤ 400› (by decide) | with_reducible exact Nat.le_trans ‹_ ≤ 100› (by decide) | with_reducible exact Int.natCast_nonneg _ | with_reducible exact n62 _ | with_reducible exact l62 ‹_ ≤ 400› (by decide) | with_reducible exact l62 ‹_ ≤ 100› (by decide) | omega) (by first | with_reducible exact lz ‹_ ≤ 400› (by decide) | with_reducible exact lz ‹_ ≤ 100› (by decide) | with_reducible exact lz ‹_ ≤ 50› (by decide) | with_reducible exact lz62 ‹_ ≤ 400› (by decide) | with_reducible exact lz62 ‹_ ≤ 100› (by decide) | with_reducible exact lz62 ‹_ ≤ 50› (by decide) | (simp; omega)) (by first | with_reducible assumption | with_reducible exact Nat.le_trans ‹_ ≤ 400› (by decide) | with_reducible exact Nat.le_trans ‹_ ≤ 100› (by decide) | with_reducible exact Int.natCast_nonneg _ | with_reducible exact n62 _ | with_reducible exact l62 ‹_ ≤ 400› (by decide) | with_reducible exact l62 ‹_ ≤ 100› (by decide) | omega), rfl, ?_⟩
    refine ExA.cons' <| StA.assignN 2 rfl (.inl rfl) <| EvA.name 6 rfl rfl <| ExA.nil ⟨f', by omega, nextRest b rest, F.set (rest.length - b.length) (rest.getLastD 0 / b.getLastD 0), _, _, _, 2 * k + 2 * m + 1, rfl, ?_, by omega, by omega, by simpa using hF, hk.nextRest hb k1 h2 h0, by omega, ?_, ?_⟩
    · rw [← set_map_encQ]; rfl
    · refine Nat.le_trans ?_ hL
      rw [e2, dvB]
      exact dvB_mono m _ (by first | with_reducible assumption | with_reducible exact Nat.le_trans ‹_ ≤ 400› (by decide) | with_reducible exact Nat.le_trans ‹_ ≤ 100› (by decide) | with_reducible exact Int.natCast_nonneg _ | with_reducible exact n62 _ | with_reducible exact l62 ‹_ ≤ 400› (by decide) | with_reducible exact l62 ‹_ ≤ 100› (by decide) | omega)
    · rw [← hD]
      simp only [divLoop, if_pos hl]; rfl
  · rw [decide_eq_false (by first | with_reducible assumption | with_reducible exact Nat.le_trans ‹_ ≤ 400› (by decide) | with_reducible exact Nat.le_trans ‹_ ≤ 100› (by decide) | with_reducible exact Int.natCast_nonneg _ | with_reducible exact n62 _ | with_reducible exact l62 ‹_ ≤ 400› (by decide) | with_reducible exact l62 ‹_ ≤ 100› (by decide) | omega)]
    have e : divLoop b f rest F = (F, rest) := by cases f <;> simp only [divLoop, if_neg hl]
    refine ExA.cons' <| StA.ret <| EvA.tuple <| ArA.cons <| EvA.call 16 rfl (H.defs 15 _ dQtrim.2).at <| ArA.cons <| JdW.frz <| EvA.name 3 rfl rfl ⟨l, _, [], _, rfl, rfl, ArA.nil ⟨_, _, rfl, (qtrim_spec H (p := F) (by first | with_reducible assumption | with_reducible exact Nat.le_trans ‹_ ≤ 400› (by decide) | with_reducible exact Nat.le_trans ‹_ ≤ 100› (by decide) | with_reducible exact Int.natCast_nonneg _ | with_reducible exact n62 _ | with_reducible exact l62 ‹_ ≤ 400› (by decide) | with_reducible exact l62 ‹_ ≤ 100› (by decide) | omega)).le (show 1 ≤ 5 by decide), ?_⟩⟩
    refine ArA.cons <| EvA.name 2 rfl rfl <| ArA.nil ⟨_, rfl, by simp [sizeLine], .inl ?_⟩
    have e3 : qdivmod a b = (trim 0 F, rest) := by
      unfold qdivmod
      rw [← hD, e]
    rw [e3]; rfl
/-! ### monic, greatest common divisor -/
theorem BdP.qmonic {n : Nat} {p : P} (h : BdP n p) (h1 : 1 ≤ n) (ht : Tr p) : BdP (2 * n) (qmonic p) := by
  unfold Mine.qmonic
  split
  · intro q hq; cases hq
  · rename_i hp
    exact (h.qscale ((Bd.last h h1).inv (ht hp))).mono (by first | with_reducible assumption | with_reducible exact Nat.le_trans ‹_ ≤ 400› (by decide) | with_reducible exact Nat.le_trans ‹_ ≤ 100› (by decide) | with_reducible exact Int.natCast_nonneg _ | with_reducible exact n62 _ | with_reducible exact l62 ‹_ ≤ 400› (by decide) | with_reducible exact l62 ‹_ ≤ 100› (by decide) | omega)
theorem Tr.qmonic {p : P} (ht : Tr p) : Tr (qmonic p) := by
  unfold Mine.qmonic
  split
  · exact Tr.nil
  · exact ht.qscale _
theorem qmonic_length (p : P) : (qmonic p).length ≤ p.length := by
  unfold qmonic
  split
  · simp
  · exact qscale_length _ _
theorem len_pos_iff (a : P) : decide ((0 : Int) < ((List.map encQ a).length : Int)) = decide (a ≠ []) := by
  cases a <;> simp <;> omega

theorem qmonic_spec {C : Cx} (H : Facts C) {n : Nat} {p : P} (hp : BdP n p) (h1 : 1 ≤ n) (hn : 2 * n ≤ Lim) (lp : p.length ≤ 400) (ht : Tr p) :
    FnSpec C 5 (Str.ofString "qmonic") [encP p] (.val (encP (qmonic p))) := by
  refine FnSpec.intro (H.defs 25 _ dQmonic.2) (by decide +kernel) (by decide +kernel) (by rfl) ?_ ?_
  · exact fun pm cd doc vs h => len1 h rfl fun _ => rfl
  intro env ok
  show ExA C _ dQmonic.1.body [some (.val (encP p)), none, none, none] [] _
  refine ExA.cons' <| StA.ret <| EvA.ifexp <| TrA.cmp <| EvA.callB 1 rfl H.b_len.1 H.b_len.2 <| ArA.cons <| EvA.name 0 rfl rfl <| ArA.nil <| ClA.len_list (.inl rfl) (by first | with_reducible exact lz ‹_ ≤ 400› (by decide) | with_reducible exact lz ‹_ ≤ 100› (by decide) | with_reducible exact lz ‹_ ≤ 50› (by decide) | with_reducible exact lz62 ‹_ ≤ 400› (by decide) | with_reducible exact lz62 ‹_ ≤ 100› (by decide) | with_reducible exact lz62 ‹_ ≤ 50› (by decide) | (simp; omega)) <| EvA.cint <| OpA.gt ⟨_, rfl, ?_⟩
  rw [len_pos_iff]
  by_cases hp0 : p = []
  · subst hp0
    show EvA C _ _ _ _ _
    refine JdW.frz <| EvA.list <| ArA.nil ⟨_, rfl, by simp, fun l => ⟨l, _, [], _, rfl, rfl, ?_⟩⟩
    left
    simp [encP, qmonic]
  · rw [decide_eq_true hp0]
    have hl := List.length_pos_iff.mpr hp0
    refine EvA.call 2 rfl (H.defs 21 _ dQscale.2).at <| ArA.cons <| EvA.name 0 rfl rfl <| ArA.cons <| EvA.call 3 rfl (H.defs 13 _ dRinv.2).at <| ArA.cons <| EvA.sub <| EvA.name 0 rfl rfl <| EvA.un <| EvA.cint <| Op1.neg <| SubA.last (.inl rfl) (getLast?_map_encQ hl) (by first | with_reducible exact lz ‹_ ≤ 400› (by decide) | with_reducible exact lz ‹_ ≤ 100› (by decide) | with_reducible exact lz ‹_ ≤ 50› (by decide) | with_reducible exact lz62 ‹_ ≤ 400› (by decide) | with_reducible exact lz62 ‹_ ≤ 100› (by decide) | with_reducible exact lz62 ‹_ ≤ 50› (by decide) | (simp; omega)) <|
      ArA.nil ⟨_, _, rfl, (rinv_spec H (ht hp0)).le (show 3 ≤ 4 by decide), ArA.nil ⟨_, _, rfl, qscale_spec H hp ((Bd.last hp h1).inv (ht hp0)) (by first | with_reducible assumption | with_reducible exact Nat.le_trans ‹_ ≤ 400› (by decide) | with_reducible exact Nat.le_trans ‹_ ≤ 100› (by decide) | with_reducible exact Int.natCast_nonneg _ | with_reducible exact n62 _ | with_reducible exact l62 ‹_ ≤ 400› (by decide) | with_reducible exact l62 ‹_ ≤ 100› (by decide) | omega) (by first | with_reducible assumption | with_reducible exact Nat.le_trans ‹_ ≤ 400› (by decide) | with_reducible exact Nat.le_trans ‹_ ≤ 100› (by decide) | with_reducible exact Int.natCast_nonneg _ | with_reducible exact n62 _ | with_reducible exact l62 ‹_ ≤ 400› (by decide) | with_reducible exact l62 ‹_ ≤ 100› (by decide) | omega), .inl ?_⟩⟩
    simp [qmonic, hp0]

theorem gcd_step {la lb r k K : Nat} (hb : 1 ≤ lb) (hr : r < lb) (h : k * 2 ^ (la + 4 * lb) ≤ K) (hlt : la < lb → r = la) (hk : 1 ≤ k) : dvB k (la + 1 - lb) k * 2 * 2 ^ (lb + 4 * r) ≤ K := by
  refine Nat.le_trans ?_ h
  by_cases hl : la < lb
  · have e := hlt hl
    have e0 : la + 1 - lb = 0 := by omega
    rw [e0, dvB, Nat.mul_assoc]
    refine Nat.mul_le_mul_left _ ?_
    have : 2 * 2 ^ (lb + 4 * r) = 2 ^ (lb + 4 * r + 1) := by rw [Nat.pow_succ]; omega
    rw [this]
    exact pow_le2 (by first | with_reducible assumption | with_reducible exact Nat.le_trans ‹_ ≤ 400› (by decide) | with_reducible exact Nat.le_trans ‹_ ≤ 100› (by decide) | with_reducible exact Int.natCast_nonneg _ | with_reducible exact n62 _ | with_reducible exact l62 ‹_ ≤ 400› (by decide) | with_reducible exact l62 ‹_ ≤ 100› (by decide) | omega)
  · have h1 := dvB_le (m := k) (n := k) (k := k) (t := la + 1 - lb) (Nat.le_refl _) (Nat.le_refl _) hk
    have h2 : dvB k (la + 1 - lb) k * 2 * 2 ^ (lb + 4 * r) ≤ (2 ^ (la + 1 - lb) * (4 * k)) * 2 * 2 ^ (lb + 4 * r) := Nat.mul_le_mul_right _ (Nat.mul_le_mul_right _ h1)
    refine Nat.le_trans h2 ?_
    have e : (2 ^ (la + 1 - lb) * (4 * k)) * 2 * 2 ^ (lb + 4 * r) = k * 2 ^ ((la + 1 - lb) + 3 + (lb + 4 * r)) := by
      rw [Nat.pow_add 2 (la + 1 - lb + 3) (lb + 4 * r), Nat.pow_add 2 (la + 1 - lb) 3]
      generalize 2 ^ (la + 1 - lb) = x
      generalize 2 ^ (lb + 4 * r) = y
      clear h1 h2 h hlt
      have e8 : (2 : Nat) ^ 3 = 8 := rfl
      rw [e8]
      grind
    rw [e]
    exact Nat.mul_le_mul_left _ (pow_le2 (by first | with_reducible assumption | with_reducible exact Nat.le_trans ‹_ ≤ 400› (by decide) | with_reducible exact Nat.le_trans ‹_ ≤ 100› (by decide) | with_reducible exact Int.natCast_nonneg _ | with_reducible exact n62 _ | with_reducible exact l62 ‹_ ≤ 400› (by decide) | with_reducible exact l62 ‹_ ≤ 100› (by decide) | omega))
theorem divLoop_short {a b : P} {f : Nat} {F : P} (h : a.length < b.length) : divLoop b f a F = (F, a) := by
  cases f <;> simp only [divLoop, if_neg (show ¬ b.length ≤ a.length by omega)]
/-- the rest of a division -/
theorem rest_facts {a b : P} {k : Nat} (ha : BdP k a) (hb : BdP k b) (h1 : 1 ≤ k) (hb1 : 1 ≤ b.length) (h0 : b.getLastD 0 ≠ 0) (ta : Tr a) :
    (qdivmod a b).2.length < b.length ∧ Tr (qdivmod a b).2 ∧ BdP (dvB k (a.length + 1 - b.length) k) (qdivmod a b).2 ∧ (a.length < b.length → (qdivmod a b).2 = a) := by
  obtain ⟨g1, g2, g3⟩ := divLoop_rest hb1 h0 hb h1 a.length a (List.replicate (a.length + 1 - b.length) 0) k (Nat.le_refl _) ta ha h1
  exact ⟨g1, g2, g3, fun h => by unfold qdivmod; simp only [divLoop_short h]⟩

inductive JQgcd (a b : P) (f : Nat) (σ : Sg) (μ : Mu) : Prop
  | mk (x : P) (y : P) (k : Nat) (h1 : σ = [some (.val (encP x)), some (.val (encP y)), none, none, none]) (h2 : μ = []) (h3 : y.length + 1 ≤ f) (h4 : x.length ≤ 100) (h5 : y.length ≤ 100) (h6 : Tr x) (h7 : Tr y) (h8 : BdP k x) (h9 : BdP k y) (h10 : 1 ≤ k) (h11 : k * 2 ^ (x.length + 4 * y.length) ≤ Lim / 2) (h12 : gcdLoop f x y = gcdLoop (b.length + 1) a b)
theorem qgcd_spec {C : Cx} (H : Facts C) {k : Nat} {a b : P} (ha : BdP k a) (hb : BdP k b) (h1 : 1 ≤ k) (hn : k * 2 ^ (a.length + 4 * b.length + 1) ≤ Lim) (la : a.length ≤ 100) (lb : b.length ≤ 100) (ta : Tr a) (tb : Tr b) :
    FnSpec C 7 (Str.ofString "qgcd") [encP a, encP b] (.val (encP (qgcd a b))) := by
  refine FnSpec.intro (H.defs 26 _ dQgcd.2) (by decide +kernel) (by decide +kernel) (by rfl) ?_ ?_
  · exact fun pm cd doc vs h => len2 h rfl fun _ _ => rfl
  intro env ok
  show ExA C _ dQgcd.1.body [some (.val (encP a)), some (.val (encP b)), none, none, none] [] _
  refine ExA.cons' <| StA.while ((JQgcd a b)) (b.length + 1)
    ⟨a, b, k, rfl, rfl, Nat.le_refl _, la, lb, ta, tb, ha, hb, h1, ?_, rfl⟩ ?_
  · rw [Nat.pow_succ, ← Nat.mul_assoc] at hn; omega
  rintro f σ μ ⟨x, y, k, rfl, rfl, hf, lx, ly, tx, ty, hx, hy, k1, hK, hG⟩
  refine TrA.cmp <| EvA.callB 2 rfl H.b_len.1 H.b_len.2 <| ArA.cons <| EvA.name 1 rfl rfl <| ArA.nil <| ClA.len_list (.inl rfl) (by first | with_reducible exact lz ‹_ ≤ 400› (by decide) | with_reducible exact lz ‹_ ≤ 100› (by decide) | with_reducible exact lz ‹_ ≤ 50› (by decide) | with_reducible exact lz62 ‹_ ≤ 400› (by decide) | with_reducible exact lz62 ‹_ ≤ 100› (by decide) | with_reducible exact lz62 ‹_ ≤ 50› (by decide) | (simp; omega)) <| EvA.cint <| OpA.gt ⟨_, rfl, ?_⟩
  obtain ⟨f', rfl⟩ : ∃ f', f = f' + 1 := ⟨f - 1, by omega⟩
  rw [len_pos_iff]
  have hk2 : k ≤ Lim / 2 := Nat.le_trans (Nat.le_mul_of_pos_right _ (Nat.pow_pos (by decide))) hK
  by_cases hy0 : y = []
  · subst hy0
    rw [decide_eq_false (by simp)]
    refine ExA.cons' <| StA.ret <| EvA.call 3 rfl (H.defs 25 _ dQmonic.2).at <| ArA.cons <| EvA.name 0 rfl rfl <| ArA.nil ⟨_, _, rfl, (qmonic_spec H hx k1 (by first | with_reducible assumption | with_reducible exact Nat.le_trans ‹_ ≤ 400› (by decide) | with_reducible exact Nat.le_trans ‹_ ≤ 100› (by decide) | with_reducible exact Int.natCast_nonneg _ | with_reducible exact n62 _ | with_reducible exact l62 ‹_ ≤ 400› (by decide) | with_reducible exact l62 ‹_ ≤ 100› (by decide) | omega) (by first | with_reducible assumption | with_reducible exact Nat.le_trans ‹_ ≤ 400› (by decide) | with_reducible exact Nat.le_trans ‹_ ≤ 100› (by decide) | with_reducible exact Int.natCast_nonneg _ | with_reducible exact n62 _ | with_reducible exact l62 ‹_ ≤ 400› (by decide) | with_reducible exact l62 ‹_ ≤ 100› (by decide) | omega) tx).le (show 5 ≤ 6 by decide), .inl ?_⟩
    unfold qgcd
    rw [← hG]; simp [gcdLoop]
  · rw [decide_eq_true hy0]
    have hl := List.length_pos_iff.mpr hy0
    obtain ⟨r1, r2, r3, r4⟩ := rest_facts hx hy k1 hl (ty hy0) tx
    have hs := gcd_step (r := (qmonic (qdivmod x y).2).length) hl (Nat.lt_of_le_of_lt (qmonic_length _) r1) hK
    have hge := dvB_ge k (x.length + 1 - y.length) k
    have hdv : dvB k (x.length + 1 - y.length) k * 2 ≤ Lim / 2 := by
      have hs := gcd_step (r := (qdivmod x y).2.length) hl r1 hK (fun h => by rw [r4 h]) k1
      exact Nat.le_trans (Nat.le_mul_of_pos_right _ (Nat.pow_pos (by decide))) hs
    refine ExA.cons' <| StA.assignW 0 1 rfl rfl (EvA.tuple <| ArA.cons <| EvA.name 1 rfl rfl <| ArA.cons <| EvA.call 3 rfl (H.defs 25 _ dQmonic.2).at <| ArA.cons <| EvA.sub <| EvA.call 4 rfl (H.defs 24 _ dQdivmod.2).at <| ArA.cons <| EvA.name 0 rfl rfl <| ArA.cons <| EvA.name 1 rfl rfl <| ArA.nil ⟨_, _, rfl, qdivmod_spec H hx hy k1 k1 (by first | with_reducible assumption | with_reducible exact Nat.le_trans ‹_ ≤ 400› (by decide) | with_reducible exact Nat.le_trans ‹_ ≤ 100› (by decide) | with_reducible exact Int.natCast_nonneg _ | with_reducible exact n62 _ | with_reducible exact l62 ‹_ ≤ 400› (by decide) | with_reducible exact l62 ‹_ ≤ 100› (by decide) | omega) (by first | with_reducible assumption | with_reducible exact Nat.le_trans ‹_ ≤ 400› (by decide) | with_reducible exact Nat.le_trans ‹_ ≤ 100› (by decide) | with_reducible exact Int.natCast_nonneg _ | with_reducible exact n62 _ | with_reducible exact l62 ‹_ ≤ 400› (by decide) | with_reducible exact l62 ‹_ ≤ 100› (by decide) | omega) (by first | with_reducible assumption | with_reducible exact Nat.le_trans ‹_ ≤ 400› (by decide) | with_reducible exact Nat.le_trans ‹_ ≤ 100› (by decide) | with_reducible exact Int.natCast_nonneg _ | with_reducible exact n62 _ | with_reducible exact l62 ‹_ ≤ 400› (by decide) | with_reducible exact l62 ‹_ ≤ 100› (by decide) | omega) hl (ty hy0), ?_⟩) (swapped_yes (i := 0) (j := 1) rfl rfl (by decide) rfl rfl rfl rfl)
    refine EvA.cint <| SubA.tup (j := 1) (by simp) rfl rfl <| ArA.nil ⟨_, _, rfl, (qmonic_spec H r3 (by first | with_reducible assumption | with_reducible exact Nat.le_trans ‹_ ≤ 400› (by decide) | with_reducible exact Nat.le_trans ‹_ ≤ 100› (by decide) | with_reducible exact Int.natCast_nonneg _ | with_reducible exact n62 _ | with_reducible exact l62 ‹_ ≤ 400› (by decide) | with_reducible exact l62 ‹_ ≤ 100› (by decide) | omega) (by first | with_reducible assumption | with_reducible exact Nat.le_trans ‹_ ≤ 400› (by decide) | with_reducible exact Nat.le_trans ‹_ ≤ 100› (by decide) | with_reducible exact Int.natCast_nonneg _ | with_reducible exact n62 _ | with_reducible exact l62 ‹_ ≤ 400› (by decide) | with_reducible exact l62 ‹_ ≤ 100› (by decide) | omega) (by first | with_reducible assumption | with_reducible exact Nat.le_trans ‹_ ≤ 400› (by decide) | with_reducible exact Nat.le_trans ‹_ ≤ 100› (by decide) | with_reducible exact Int.natCast_nonneg _ | with_reducible exact n62 _ | with_reducible exact l62 ‹_ ≤ 400› (by decide) | with_reducible exact l62 ‹_ ≤ 100› (by decide) | omega) r2).le (show 5 ≤ 6 by decide), ArA.nil ⟨_, rfl, by simp [sizeLine], _, _, rfl, ?_⟩⟩
    have ml := qmonic_length (qdivmod x y).2
    refine ExA.nil ⟨f', by omega, y, qmonic (qdivmod x y).2, dvB k (x.length + 1 - y.length) k * 2, rfl, rfl, by omega, by omega, by omega, ty, r2.qmonic, hy.mono (by first | with_reducible assumption | with_reducible exact Nat.le_trans ‹_ ≤ 400› (by decide) | with_reducible exact Nat.le_trans ‹_ ≤ 100› (by decide) | with_reducible exact Int.natCast_nonneg _ | with_reducible exact n62 _ | with_reducible exact l62 ‹_ ≤ 400› (by decide) | with_reducible exact l62 ‹_ ≤ 100› (by decide) | omega), (r3.qmonic (by first | with_reducible assumption | with_reducible exact Nat.le_trans ‹_ ≤ 400› (by decide) | with_reducible exact Nat.le_trans ‹_ ≤ 100› (by decide) | with_reducible exact Int.natCast_nonneg _ | with_reducible exact n62 _ | with_reducible exact l62 ‹_ ≤ 400› (by decide) | with_reducible exact l62 ‹_ ≤ 100› (by decide) | omega) r2).mono (by first | with_reducible assumption | with_reducible exact Nat.le_trans ‹_ ≤ 400› (by decide) | with_reducible exact Nat.le_trans ‹_ ≤ 100› (by decide) | with_reducible exact Int.natCast_nonneg _ | with_reducible exact n62 _ | with_reducible exact l62 ‹_ ≤ 400› (by decide) | with_reducible exact l62 ‹_ ≤ 100› (by decide) | omega), by omega, ?_, ?_⟩
    · refine Nat.le_trans (Nat.mul_le_mul_left _ (pow_le2 ?_)) (gcd_step (r := (qdivmod x y).2.length) hl r1 hK (fun h => by rw [r4 h]) k1)
      omega
    · rw [← hG]; simp [gcdLoop, hy0]

/-! ### the value -/
theorem drop_back {α : Type} {p : List α} {i : Nat} {q : α} (hq : p.reverse[i]? = some q) : i < p.length ∧ q ∈ p ∧ p.drop (p.length - (i + 1)) = q :: p.drop (p.length - i) ∧ (p.drop (p.length - i)).length = i := by
  have hi : i < p.length := by have := (List.getElem?_eq_some_iff.mp hq).1; rwa [List.length_reverse] at this
  rw [List.getElem?_reverse hi] at hq
  have e1 : p.length - (i + 1) = p.length - 1 - i := by omega
  have e2 : p.length - i = p.length - 1 - i + 1 := by omega
  refine ⟨hi, List.mem_of_getElem? hq, ?_, ?_⟩
  · rw [e1, e2]; exact drop_cons hq
  · rw [List.length_drop]; exact Nat.sub_sub_self (Nat.le_of_lt hi)
inductive JQat (p : P) (r : Rat) (i : Nat) (σ : Sg) (μ : Mu) : Prop
  | mk (o : Option WV) (h1 : σ = [some (.val (encP p)), some (.val (encQ r)), some (.val (encQ (qat (p.drop (p.length - i)) r))), o, none, none, none, none]) (h2 : μ = [])
theorem qat_spec {C : Cx} (H : Facts C) {n m : Nat} {p : P} {r : Rat} (hp : BdP n p) (hr : Bd m r) (h1 : 1 ≤ n) (hn : 1 + (p.length + 1) * (n + m + 1) ≤ Lim) (lp : p.length ≤ 400) :
    FnSpec C 4 (Str.ofString "qat") [encP p, encQ r] (.val (encQ (qat p r))) ∧ Bd (1 + p.length * (n + m + 1)) (qat p r) := by
  have hb : ∀ (l : P), BdP n l → Bd (1 + l.length * (n + m + 1)) (qat l r) := by
    intro l
    induction l with
    | nil => intro _; exact Bd.zero (by first | with_reducible assumption | with_reducible exact Nat.le_trans ‹_ ≤ 400› (by decide) | with_reducible exact Nat.le_trans ‹_ ≤ 100› (by decide) | with_reducible exact Int.natCast_nonneg _ | with_reducible exact n62 _ | with_reducible exact l62 ‹_ ≤ 400› (by decide) | with_reducible exact l62 ‹_ ≤ 100› (by decide) | omega)
    | cons c t ih =>
      intro h
      have := ((ih fun q hq => h q (.tail _ hq)).mul hr).add (h c (.head _))
      refine Bd.mono (n := 1 + t.length * (n + m + 1) + m + n + 1) this ?_
      simp only [List.length_cons, Nat.add_mul, Nat.one_mul]; omega
  refine ⟨?_, hb p hp⟩
  refine FnSpec.intro (H.defs 27 _ dQat.2) (by decide +kernel) (by decide +kernel) (by rfl) ?_ ?_
  · exact fun pm cd doc vs h => len2 h rfl fun _ _ => rfl
  intro env ok
  show ExA C _ dQat.1.body [some (.val (encP p)), some (.val (encQ r)), none, none, none, none, none, none] [] _
  refine ExA.cons <| StA.assignN 2 rfl (.inl rfl) <| EvA.glob 4 rfl H.g_R0 ⟨rfl, ?_⟩
  refine ExA.cons <| StA.for <| ItA.rev 5 rfl H.b_rev.1 H.b_rev.2 <| EvA.name 0 rfl rfl ⟨_, rfl, ?_⟩
  refine ⟨(JQat p r), ⟨none, by simp [qat]; rfl, rfl⟩, ?_, ?_⟩
  · rintro i w σ μ hw ⟨o, rfl, rfl⟩
    rw [← List.map_reverse, List.map_map] at hw
    obtain ⟨q, hq, rfl⟩ := list_get hw
    obtain ⟨hi, hqm, ed, hlen⟩ := drop_back hq
    have hbd := hb (p.drop (p.length - i)) (fun x hx => hp x (List.mem_of_mem_drop hx))
    rw [hlen] at hbd
    have hle : (i + 1) * (n + m + 1) ≤ p.length * (n + m + 1) := Nat.mul_le_mul_right _ hi
    have hle2 : (p.length + 1) * (n + m + 1) = p.length * (n + m + 1) + (n + m + 1) := by rw [Nat.add_mul, Nat.one_mul]
    have hle3 : (i + 1) * (n + m + 1) = i * (n + m + 1) + (n + m + 1) := by rw [Nat.add_mul, Nat.one_mul]
    refine AgA.name 3 rfl (.inl rfl) ?_
    refine ExA.cons' <| StA.assignN 2 rfl (.inl rfl) <| EvA.call 6 rfl (H.defs 8 _ dRadd.2).at <| ArA.cons <| EvA.call 7 rfl (H.defs 10 _ dRmul.2).at <| ArA.cons <| EvA.name 2 rfl rfl <| ArA.cons <| EvA.name 1 rfl rfl <| ArA.nil ⟨_, _, rfl, rmul_spec H hbd hr (by first | with_reducible assumption | with_reducible exact Nat.le_trans ‹_ ≤ 400› (by decide) | with_reducible exact Nat.le_trans ‹_ ≤ 100› (by decide) | with_reducible exact Int.natCast_nonneg _ | with_reducible exact n62 _ | with_reducible exact l62 ‹_ ≤ 400› (by decide) | with_reducible exact l62 ‹_ ≤ 100› (by decide) | omega), ?_⟩
    refine ArA.cons <| EvA.name 3 rfl rfl <| ArA.nil ⟨_, _, rfl, radd_spec H (hbd.mul hr) (hp q hqm) (by first | with_reducible assumption | with_reducible exact Nat.le_trans ‹_ ≤ 400› (by decide) | with_reducible exact Nat.le_trans ‹_ ≤ 100› (by decide) | with_reducible exact Int.natCast_nonneg _ | with_reducible exact n62 _ | with_reducible exact l62 ‹_ ≤ 400› (by decide) | with_reducible exact l62 ‹_ ≤ 100› (by decide) | omega), ExA.nil ⟨some (.val (encQ q)), ?_, rfl⟩⟩
    rw [ed]; rfl
  · rintro σ μ ⟨o, rfl, rfl⟩
    refine ⟨rfl, ?_⟩
    refine ExA.cons' <| StA.ret <| EvA.name 2 rfl rfl (.inl ?_)
    simp
end Mine
end
section
open PySem PySem.W PySem.Calls PyProof.Rows
set_option linter.unusedVariables false
namespace Mine
set_option maxRecDepth 100000

noncomputable def dFmake : { x : DefText // nthDef 31 = some x } := ⟨_, rfl⟩
noncomputable def dFpoly : { x : DefText // nthDef 32 = some x } := ⟨_, rfl⟩
noncomputable def dFnumber : { x : DefText // nthDef 33 = some x } := ⟨_, rfl⟩
noncomputable def dFadd : { x : DefText // nthDef 34 = some x } := ⟨_, rfl⟩
noncomputable def dFdiv : { x : DefText // nthDef 35 = some x } := ⟨_, rfl⟩
noncomputable def dFat : { x : DefText // nthDef 36 = some x } := ⟨_, rfl⟩
noncomputable def dShape : { x : DefText // nthDef 38 = some x } := ⟨_, rfl⟩

theorem encQ_int (z : Int) : PyData.tuple [.int z, .int 1] = encQ (z : Rat) := rfl

theorem from_z_spec {C : Cx} (H : Facts C) {z : Z} (hz : z.length ≤ 1000) : FnSpec C 1 (Str.ofString "from_z") [encZ z] (.val (encP (fromZ z))) := by
  refine FnSpec.intro (H.defs 28 _ dFromz.2) (by decide +kernel) (by decide +kernel) (by rfl) ?_ ?_
  · exact fun pm cd doc vs h => len1 h rfl fun _ => rfl
  intro env ok
  show ExA C _ dFromz.1.body [some (.val (encZ z))] [] _
  refine ExA.cons' <| StA.ret <| JdW.frz <| EvA.compM 1 rfl (by decide +kernel) (by rfl) <| ItA.list <| EvA.name 0 rfl rfl ⟨_, rfl, [none, none], z.map fun (x : Int) => encQ (x : Rat), trivial, by simp, by simp, by simp [sizeLine]; omega, ?_, ?_⟩
  · intro env' ok' i w hw
    rw [List.map_map] at hw
    obtain ⟨x, hx, rfl⟩ := list_get hw
    exact EvA.tuple <| ArA.cons <| EvA.name 1 rfl rfl <| ArA.cons <| EvA.cint <| ArA.nil ⟨_, rfl, by simp [sizeLine], ⟨_, rfl, rfl, rfl, by simp [hx]; rfl⟩⟩
  · intro l
    refine ⟨l, _, [], _, rfl, rfl, ?_⟩
    left
    simp [encP, fromZ]

theorem eqv_nil (p : P) : PyData.eqv (encP p) (.list []) = decide (p = []) := by
  cases p <;> simp [encP, PyData.eqv, PyData.eqvAll]
theorem depth_encP_min (p : P) : min (encP p).depth (PyData.list []).depth ≤ 40 := Nat.le_trans (Nat.min_le_right _ _) (by simp [PyData.depth, PyData.depthAll])

theorem fmake_spec {C : Cx} (H : Facts C) {k : Nat} {t b : P} (ha : BdP k t) (hb : BdP k b) (h1 : 1 ≤ k) (hn : k * 2 ^ (t.length + 4 * b.length + 1) ≤ Lim) (la : t.length ≤ 100) (lb : b.length ≤ 100) (ta : Tr t) (tb : Tr b) (hb0 : b ≠ []) (hg : t ≠ [] → (qgcd t b).length = 1) :
    FnSpec C 8 (Str.ofString "fmake") [encP t, encP b] (.val (encF (fmake t b))) := by
  refine FnSpec.intro (H.defs 31 _ dFmake.2) (by decide +kernel) (by decide +kernel) (by rfl) ?_ ?_
  · exact fun pm cd doc vs h => len2 h rfl fun _ _ => rfl
  intro env ok
  show ExA C _ dFmake.1.body [some (.val (encP t)), some (.val (encP b)), none, none, none, none, none, none, none, none, none, none] [] _
  refine ExA.cons <| StA.ite <| TrA.cmp <| EvA.name 1 rfl rfl <| JdW.frz <| EvA.list <| ArA.nil ⟨_, rfl, by simp, fun l => ⟨l, _, [], _, rfl, rfl, OpA.eq (depth_encP_min _) ⟨_, rfl, ?_⟩⟩⟩
  rw [eqv_nil, decide_eq_false hb0]
  refine ExA.nil ⟨rfl, ?_⟩
  refine ExA.cons' <| StA.ite <| TrA.cmp <| EvA.name 0 rfl rfl <| JdW.frz <| EvA.list <| ArA.nil ⟨_, rfl, by simp, fun l => ⟨l, _, [], _, rfl, rfl, OpA.eq (depth_encP_min _) ⟨_, rfl, ?_⟩⟩⟩
  rw [eqv_nil]
  by_cases ht0 : t = []
  · rw [decide_eq_true ht0]
    refine ExA.cons' <| StA.ret <| EvA.glob 5 rfl H.g_F0 (.inl ?_)
    simp [fmake, ht0]; rfl
  rw [decide_eq_false ht0]
  refine ExA.nil ?_
  have hk2 : 2 * k ≤ Lim := by
    have h2 : k * 2 ≤ k * 2 ^ (t.length + 4 * b.length + 1) := Nat.mul_le_mul_left _ (by rw [Nat.pow_succ]; have : 0 < 2 ^ (t.length + 4 * b.length) := Nat.pow_pos (by decide); omega)
    omega
  refine ExA.cons <| StA.assignN 2 rfl (.inl rfl) <| EvA.call 6 rfl (H.defs 26 _ dQgcd.2).at <| ArA.cons <| EvA.name 0 rfl rfl <| ArA.cons <| EvA.name 1 rfl rfl <| ArA.nil ⟨_, _, rfl, qgcd_spec H ha hb h1 hn la lb ta tb, ⟨rfl, ?_⟩⟩
  refine ExA.cons <| StA.ite <| TrA.cmp <| EvA.call 7 rfl (H.defs 16 _ dQdegree.2).at <| ArA.cons <| EvA.name 2 rfl rfl <| ArA.nil ⟨_, _, rfl, (qdegree_spec H (by rw [hg ht0]; decide)).le (show 1 ≤ 7 by decide), EvA.cint <| OpA.gt ⟨_, rfl, ?_⟩⟩
  rw [hg ht0]
  refine ExA.nil ⟨rfl, ?_⟩
  have hbl := Bd.last hb h1
  refine ExA.cons <| StA.assignN 3 rfl (.inl rfl) <| EvA.call 9 rfl (H.defs 13 _ dRinv.2).at <| ArA.cons <| EvA.call 10 rfl (H.defs 17 _ dQlead.2).at <| ArA.cons <| EvA.name 1 rfl rfl <| ArA.nil ⟨_, _, rfl, (qlead_spec H (by first | with_reducible assumption | with_reducible exact Nat.le_trans ‹_ ≤ 400› (by decide) | with_reducible exact Nat.le_trans ‹_ ≤ 100› (by decide) | with_reducible exact Int.natCast_nonneg _ | with_reducible exact n62 _ | with_reducible exact l62 ‹_ ≤ 400› (by decide) | with_reducible exact l62 ‹_ ≤ 100› (by decide) | omega)).le (show 1 ≤ 7 by decide), ArA.nil ⟨_, _, rfl, (rinv_spec H (tb hb0)).le (show 3 ≤ 7 by decide), ⟨rfl, ?_⟩⟩⟩
  refine ExA.cons' <| StA.ret <| EvA.tuple <| ArA.cons <| EvA.call 11 rfl (H.defs 21 _ dQscale.2).at <| ArA.cons <| EvA.name 0 rfl rfl <| ArA.cons <| EvA.name 3 rfl rfl <| ArA.nil ⟨_, _, rfl, (qscale_spec H ha (hbl.inv (tb hb0)) (by first | with_reducible assumption | with_reducible exact Nat.le_trans ‹_ ≤ 400› (by decide) | with_reducible exact Nat.le_trans ‹_ ≤ 100› (by decide) | with_reducible exact Int.natCast_nonneg _ | with_reducible exact n62 _ | with_reducible exact l62 ‹_ ≤ 400› (by decide) | with_reducible exact l62 ‹_ ≤ 100› (by decide) | omega) (by first | with_reducible assumption | with_reducible exact Nat.le_trans ‹_ ≤ 400› (by decide) | with_reducible exact Nat.le_trans ‹_ ≤ 100› (by decide) | with_reducible exact Int.natCast_nonneg _ | with_reducible exact n62 _ | with_reducible exact l62 ‹_ ≤ 400› (by decide) | with_reducible exact l62 ‹_ ≤ 100› (by decide) | omega)).le (show 4 ≤ 7 by decide), ?_⟩
  refine ArA.cons <| EvA.call 11 rfl (H.defs 21 _ dQscale.2).at <| ArA.cons <| EvA.name 1 rfl rfl <| ArA.cons <| EvA.name 3 rfl rfl <| ArA.nil ⟨_, _, rfl, (qscale_spec H hb (hbl.inv (tb hb0)) (by first | with_reducible assumption | with_reducible exact Nat.le_trans ‹_ ≤ 400› (by decide) | with_reducible exact Nat.le_trans ‹_ ≤ 100› (by decide) | with_reducible exact Int.natCast_nonneg _ | with_reducible exact n62 _ | with_reducible exact l62 ‹_ ≤ 400› (by decide) | with_reducible exact l62 ‹_ ≤ 100› (by decide) | omega) (by first | with_reducible assumption | with_reducible exact Nat.le_trans ‹_ ≤ 400› (by decide) | with_reducible exact Nat.le_trans ‹_ ≤ 100› (by decide) | with_reducible exact Int.natCast_nonneg _ | with_reducible exact n62 _ | with_reducible exact l62 ‹_ ≤ 400› (by decide) | with_reducible exact l62 ‹_ ≤ 100› (by decide) | omega)).le (show 4 ≤ 7 by decide), ?_⟩
  refine ArA.nil ⟨_, rfl, by simp [sizeLine], .inl ?_⟩
  unfold fmake
  rw [if_neg ht0]
  simp only [hg ht0, Nat.lt_irrefl, if_false]
  rfl

theorem fpoly_spec {C : Cx} (H : Facts C) {p : P} (hp : p.length ≤ 1000) : FnSpec C 1 (Str.ofString "fpoly") [encP p] (.val (encF (fpoly p))) := by
  refine FnSpec.intro (H.defs 32 _ dFpoly.2) (by decide +kernel) (by decide +kernel) (by rfl) ?_ ?_
  · exact fun pm cd doc vs h => len1 h rfl fun _ => rfl
  intro env ok
  show ExA C _ dFpoly.1.body [some (.val (encP p)), none, none] [] _
  refine ExA.cons' <| StA.ret <| EvA.tuple <| ArA.cons <| JdW.frz <| EvA.callT 1 rfl H.b_list.1 H.b_list.2 <| ArA.cons <| EvA.name 0 rfl rfl <| ArA.nil <| ClA.list (.inl rfl) (by first | with_reducible exact lzs ‹_ ≤ 400› (by decide) | with_reducible exact lzs ‹_ ≤ 100› (by decide) | with_reducible exact lzs ‹_ ≤ 50› (by decide) | (simp [sizeLine]; omega)) fun l => ⟨l, _, [], _, rfl, rfl, ?_⟩
  refine ArA.cons <| JdW.frz <| EvA.list <| ArA.cons <| EvA.glob 2 rfl H.g_R1 <| ArA.nil ⟨_, rfl, by simp [sizeLine], fun l => ⟨l, _, [], _, rfl, rfl, ?_⟩⟩
  exact ArA.nil ⟨_, rfl, by simp [sizeLine], .inl rfl⟩

theorem eqv_encQ (a b : Rat) : PyData.eqv (encQ a) (encQ b) = decide (a = b) := by
  simp only [encQ, PyData.eqv, PyData.eqvAll, Bool.and_true]
  by_cases h : a = b
  · subst h; simp
  · rw [decide_eq_false h]
    by_cases h1 : a.num = b.num
    · have h2 : a.den ≠ b.den := fun e => h (Rat.ext h1 e)
      simp [h1]
      omega
    · simp [h1]
theorem depth_encQ (a : Rat) (d : PyData) : min (encQ a).depth d.depth ≤ 40 := Nat.le_trans (Nat.min_le_left _ _) (by simp [encQ, PyData.depth, PyData.depthAll])
theorem eqv_R0 (a : Rat) : PyData.eqv (encQ a) (.tuple [.int 0, .int 1]) = decide (a = 0) := eqv_encQ a 0

theorem fnumber_spec {C : Cx} (H : Facts C) (r : Rat) : FnSpec C 1 (Str.ofString "fnumber") [encQ r] (.val (encF (fnumber r))) := by
  refine FnSpec.intro (H.defs 33 _ dFnumber.2) (by decide +kernel) (by decide +kernel) (by rfl) ?_ ?_
  · exact fun pm cd doc vs h => len1 h rfl fun _ => rfl
  intro env ok
  show ExA C _ dFnumber.1.body [some (.val (encQ r)), none, none] [] _
  refine ExA.cons' <| StA.ret <| EvA.tuple <| ArA.cons <| JdW.frz <| EvA.ifexp <| TrA.cmp <| EvA.name 0 rfl rfl <| EvA.glob 1 rfl H.g_R0 <| OpA.eq (depth_encQ _ _) ⟨_, rfl, ?_⟩
  rw [eqv_R0]
  by_cases h0 : r = 0
  · rw [decide_eq_true h0]
    refine EvA.list <| ArA.nil ⟨_, rfl, by simp, fun l => ⟨l, _, [], _, rfl, rfl, ?_⟩⟩
    refine ArA.cons <| JdW.frz <| EvA.list <| ArA.cons <| EvA.glob 2 rfl H.g_R1 <| ArA.nil ⟨_, rfl, by simp [sizeLine], fun l => ⟨l, _, [], _, rfl, rfl, ?_⟩⟩
    refine ArA.nil ⟨_, rfl, by simp [sizeLine], .inl ?_⟩
    simp [fnumber, h0, encF, encP, encQ_one]
  · rw [decide_eq_false h0]
    refine EvA.list <| ArA.cons <| EvA.name 0 rfl rfl <| ArA.nil ⟨_, rfl, by simp [sizeLine], fun l => ⟨l, _, [], _, rfl, rfl, ?_⟩⟩
    refine ArA.cons <| JdW.frz <| EvA.list <| ArA.cons <| EvA.glob 2 rfl H.g_R1 <| ArA.nil ⟨_, rfl, by simp [sizeLine], fun l => ⟨l, _, [], _, rfl, rfl, ?_⟩⟩
    refine ArA.nil ⟨_, rfl, by simp [sizeLine], .inl ?_⟩
    simp [fnumber, h0, encF, encP, encQ_one]
end Mine
end
section
open PySem PySem.W PySem.Calls PyProof.Rows
set_option linter.unusedVariables false
namespace Mine
set_option maxRecDepth 100000

theorem SubA.tupN {C : Cx} {L : Lx} {σ : Sg} {μ : Mu} {e1 e2 : Expr} {xs : List PyData} (j : Nat) {d : PyData} {Q : WV → Sg → Mu → Prop} (hx : xs[j]? = some d) (hn : xs.length ≤ 1000) (h : Q (.val d) σ μ)
    (hs : ∀ t k u, subscripted e2 false (.ref t) (.int k u) = operate [.ref t, .int k u] (getItem (.ref t) (.int k u)) := by intro _ _ _; with_unfolding_all rfl) :
    OpA C L (subscriptTail e1 e2) (.val (.tuple xs)) (.val (.int (j : Int))) σ μ Q :=
  SubA.tup (by first | with_reducible assumption | with_reducible exact Nat.le_trans ‹_ ≤ 400› (by decide) | with_reducible exact Nat.le_trans ‹_ ≤ 100› (by decide) | with_reducible exact Int.natCast_nonneg _ | with_reducible exact n62 _ | with_reducible exact l62 ‹_ ≤ 400› (by decide) | with_reducible exact l62 ‹_ ≤ 100› (by decide) | omega) (seqIndex_nat (List.getElem?_eq_some_iff.mp hx).1) hx h hs

theorem fadd_spec {C : Cx} (H : Facts C) {n m k : Nat} {f g : Fr2} (hf1 : BdP n f.1) (hf2 : BdP n f.2) (hg1 : BdP m g.1) (hg2 : BdP m g.2) (hnm : n + m ≤ 1000)
    (lf1 : f.1.length ≤ 3) (lf2 : f.2.length ≤ 3) (lg1 : g.1.length ≤ 3) (lg2 : g.2.length ≤ 3)
    (hk1 : 3 + (f.1.length * g.2.length + g.1.length * f.2.length) * (n + m + 1) ≤ k) (hk2 : 1 + f.2.length * g.2.length * (n + m + 1) ≤ k) (hk : k * 2 ^ 16 ≤ Lim)
    (lt : (qadd (qmul f.1 g.2) (qmul g.1 f.2)).length ≤ 3) (lb : (qmul f.2 g.2).length ≤ 3) (tb : Tr (qmul f.2 g.2)) (hb0 : qmul f.2 g.2 ≠ []) (hg : qadd (qmul f.1 g.2) (qmul g.1 f.2) ≠ [] → (qgcd (qadd (qmul f.1 g.2) (qmul g.1 f.2)) (qmul f.2 g.2)).length = 1) :
    FnSpec C 9 (Str.ofString "fadd") [encF f, encF g] (.val (encF (fadd f g))) := by
  have hkL : k ≤ 1024 := by unfold Lim at hk; omega
  have p1 := hf1.qmul hg2
  have p2 := hg1.qmul hf2
  have p3 := hf2.qmul hg2
  have pl : ∀ {a b : P}, a.length ≤ 3 → b.length ≤ 3 → a.length * (b.length * (n + m + 1)) ≤ 9009 := by
    intro a b h1 h2
    have : a.length * (b.length * (n + m + 1)) ≤ 3 * (3 * 1001) := Nat.mul_le_mul h1 (Nat.mul_le_mul h2 (by first | with_reducible assumption | with_reducible exact Nat.le_trans ‹_ ≤ 400› (by decide) | with_reducible exact Nat.le_trans ‹_ ≤ 100› (by decide) | with_reducible exact Int.natCast_nonneg _ | with_reducible exact n62 _ | with_reducible exact l62 ‹_ ≤ 400› (by decide) | with_reducible exact l62 ‹_ ≤ 100› (by decide) | omega))
    omega
  have b1 := pl lf1 lg2
  have b2 := pl lg1 lf2
  have b3 := pl lf2 lg2
  rw [Nat.add_comm m n] at p2
  have hL : Lim = 67108864 := rfl
  have q := p1.qadd p2 (by first | with_reducible assumption | with_reducible exact Nat.le_trans ‹_ ≤ 400› (by decide) | with_reducible exact Nat.le_trans ‹_ ≤ 100› (by decide) | with_reducible exact Int.natCast_nonneg _ | with_reducible exact n62 _ | with_reducible exact l62 ‹_ ≤ 400› (by decide) | with_reducible exact l62 ‹_ ≤ 100› (by decide) | omega) (by first | with_reducible assumption | with_reducible exact Nat.le_trans ‹_ ≤ 400› (by decide) | with_reducible exact Nat.le_trans ‹_ ≤ 100› (by decide) | with_reducible exact Int.natCast_nonneg _ | with_reducible exact n62 _ | with_reducible exact l62 ‹_ ≤ 400› (by decide) | with_reducible exact l62 ‹_ ≤ 100› (by decide) | omega)
  have hq : BdP k (qadd (qmul f.1 g.2) (qmul g.1 f.2)) := q.mono (by rw [Nat.add_mul, Nat.mul_assoc, Nat.mul_assoc] at hk1; omega)
  have hb : BdP k (qmul f.2 g.2) := p3.mono (by rw [Nat.mul_assoc] at hk2; omega)
  refine FnSpec.intro (H.defs 34 _ dFadd.2) (by decide +kernel) (by decide +kernel) (by rfl) ?_ ?_
  · exact fun pm cd doc vs h => len2 h rfl fun _ _ => rfl
  intro env ok
  show ExA C _ dFadd.1.body [some (.val (encF f)), some (.val (encF g)), none, none, none] [] _
  refine ExA.cons' <| StA.ret <| EvA.call 2 rfl (H.defs 31 _ dFmake.2).at <| ArA.cons <| EvA.call 3 rfl (H.defs 18 _ dQadd.2).at <| ArA.cons <| EvA.call 4 rfl (H.defs 23 _ dQmul.2).at <| ArA.cons <| EvA.sub <| EvA.name 0 rfl rfl <| EvA.cint <| SubA.tupN 0 rfl (by simp) <| ArA.cons <| EvA.sub <| EvA.name 1 rfl rfl <| EvA.cint <| SubA.tupN 1 rfl (by simp) <|
    ArA.nil ⟨_, _, rfl, (qmul_spec H hf1 hg2 (by first | with_reducible assumption | with_reducible exact Nat.le_trans ‹_ ≤ 400› (by decide) | with_reducible exact Nat.le_trans ‹_ ≤ 100› (by decide) | with_reducible exact Int.natCast_nonneg _ | with_reducible exact n62 _ | with_reducible exact l62 ‹_ ≤ 400› (by decide) | with_reducible exact l62 ‹_ ≤ 100› (by decide) | omega) (by first | with_reducible assumption | with_reducible exact Nat.le_trans ‹_ ≤ 400› (by decide) | with_reducible exact Nat.le_trans ‹_ ≤ 100› (by decide) | with_reducible exact Int.natCast_nonneg _ | with_reducible exact n62 _ | with_reducible exact l62 ‹_ ≤ 400› (by decide) | with_reducible exact l62 ‹_ ≤ 100› (by decide) | omega) (by first | with_reducible assumption | with_reducible exact Nat.le_trans ‹_ ≤ 400› (by decide) | with_reducible exact Nat.le_trans ‹_ ≤ 100› (by decide) | with_reducible exact Int.natCast_nonneg _ | with_reducible exact n62 _ | with_reducible exact l62 ‹_ ≤ 400› (by decide) | with_reducible exact l62 ‹_ ≤ 100› (by decide) | omega)).le (show 4 ≤ 8 by decide), ?_⟩
  refine ArA.cons <| EvA.call 4 rfl (H.defs 23 _ dQmul.2).at <| ArA.cons <| EvA.sub <| EvA.name 1 rfl rfl <| EvA.cint <| SubA.tupN 0 rfl (by simp) <| ArA.cons <| EvA.sub <| EvA.name 0 rfl rfl <| EvA.cint <| SubA.tupN 1 rfl (by simp) <|
    ArA.nil ⟨_, _, rfl, (qmul_spec H hg1 hf2 (by rw [Nat.add_comm m n]; omega) (by first | with_reducible assumption | with_reducible exact Nat.le_trans ‹_ ≤ 400› (by decide) | with_reducible exact Nat.le_trans ‹_ ≤ 100› (by decide) | with_reducible exact Int.natCast_nonneg _ | with_reducible exact n62 _ | with_reducible exact l62 ‹_ ≤ 400› (by decide) | with_reducible exact l62 ‹_ ≤ 100› (by decide) | omega) (by first | with_reducible assumption | with_reducible exact Nat.le_trans ‹_ ≤ 400› (by decide) | with_reducible exact Nat.le_trans ‹_ ≤ 100› (by decide) | with_reducible exact Int.natCast_nonneg _ | with_reducible exact n62 _ | with_reducible exact l62 ‹_ ≤ 400› (by decide) | with_reducible exact l62 ‹_ ≤ 100› (by decide) | omega)).le (show 4 ≤ 8 by decide), ?_⟩
  refine ArA.nil ⟨_, _, rfl, (qadd_spec H p1 p2 (by first | with_reducible assumption | with_reducible exact Nat.le_trans ‹_ ≤ 400› (by decide) | with_reducible exact Nat.le_trans ‹_ ≤ 100› (by decide) | with_reducible exact Int.natCast_nonneg _ | with_reducible exact n62 _ | with_reducible exact l62 ‹_ ≤ 400› (by decide) | with_reducible exact l62 ‹_ ≤ 100› (by decide) | omega) (by first | with_reducible assumption | with_reducible exact Nat.le_trans ‹_ ≤ 400› (by decide) | with_reducible exact Nat.le_trans ‹_ ≤ 100› (by decide) | with_reducible exact Int.natCast_nonneg _ | with_reducible exact n62 _ | with_reducible exact l62 ‹_ ≤ 400› (by decide) | with_reducible exact l62 ‹_ ≤ 100› (by decide) | omega) (by first | with_reducible assumption | with_reducible exact Nat.le_trans ‹_ ≤ 400› (by decide) | with_reducible exact Nat.le_trans ‹_ ≤ 100› (by decide) | with_reducible exact Int.natCast_nonneg _ | with_reducible exact n62 _ | with_reducible exact l62 ‹_ ≤ 400› (by decide) | with_reducible exact l62 ‹_ ≤ 100› (by decide) | omega) ?_ ?_).le (show 4 ≤ 8 by decide), ?_⟩
  · unfold qmul; split
    · simp
    · rw [mulRows_length]; simp; omega
  · unfold qmul; split
    · simp
    · rw [mulRows_length]; simp; omega
  refine ArA.cons <| EvA.call 4 rfl (H.defs 23 _ dQmul.2).at <| ArA.cons <| EvA.sub <| EvA.name 0 rfl rfl <| EvA.cint <| SubA.tupN 1 rfl (by simp) <| ArA.cons <| EvA.sub <| EvA.name 1 rfl rfl <| EvA.cint <| SubA.tupN 1 rfl (by simp) <|
    ArA.nil ⟨_, _, rfl, (qmul_spec H hf2 hg2 (by first | with_reducible assumption | with_reducible exact Nat.le_trans ‹_ ≤ 400› (by decide) | with_reducible exact Nat.le_trans ‹_ ≤ 100› (by decide) | with_reducible exact Int.natCast_nonneg _ | with_reducible exact n62 _ | with_reducible exact l62 ‹_ ≤ 400› (by decide) | with_reducible exact l62 ‹_ ≤ 100› (by decide) | omega) (by first | with_reducible assumption | with_reducible exact Nat.le_trans ‹_ ≤ 400› (by decide) | with_reducible exact Nat.le_trans ‹_ ≤ 100› (by decide) | with_reducible exact Int.natCast_nonneg _ | with_reducible exact n62 _ | with_reducible exact l62 ‹_ ≤ 400› (by decide) | with_reducible exact l62 ‹_ ≤ 100› (by decide) | omega) (by first | with_reducible assumption | with_reducible exact Nat.le_trans ‹_ ≤ 400› (by decide) | with_reducible exact Nat.le_trans ‹_ ≤ 100› (by decide) | with_reducible exact Int.natCast_nonneg _ | with_reducible exact n62 _ | with_reducible exact l62 ‹_ ≤ 400› (by decide) | with_reducible exact l62 ‹_ ≤ 100› (by decide) | omega)).le (show 4 ≤ 8 by decide), ?_⟩
  refine ArA.nil ⟨_, _, rfl, fmake_spec H hq hb (by first | with_reducible assumption | with_reducible exact Nat.le_trans ‹_ ≤ 400› (by decide) | with_reducible exact Nat.le_trans ‹_ ≤ 100› (by decide) | with_reducible exact Int.natCast_nonneg _ | with_reducible exact n62 _ | with_reducible exact l62 ‹_ ≤ 400› (by decide) | with_reducible exact l62 ‹_ ≤ 100› (by decide) | omega) ?_ (by first | with_reducible assumption | with_reducible exact Nat.le_trans ‹_ ≤ 400› (by decide) | with_reducible exact Nat.le_trans ‹_ ≤ 100› (by decide) | with_reducible exact Int.natCast_nonneg _ | with_reducible exact n62 _ | with_reducible exact l62 ‹_ ≤ 400› (by decide) | with_reducible exact l62 ‹_ ≤ 100› (by decide) | omega) (by first | with_reducible assumption | with_reducible exact Nat.le_trans ‹_ ≤ 400› (by decide) | with_reducible exact Nat.le_trans ‹_ ≤ 100› (by decide) | with_reducible exact Int.natCast_nonneg _ | with_reducible exact n62 _ | with_reducible exact l62 ‹_ ≤ 400› (by decide) | with_reducible exact l62 ‹_ ≤ 100› (by decide) | omega) (Tr.qadd _ _) tb hb0 hg, .inl rfl⟩
  exact Nat.le_trans (Nat.mul_le_mul_left _ (pow_le2 (by first | with_reducible assumption | with_reducible exact Nat.le_trans ‹_ ≤ 400› (by decide) | with_reducible exact Nat.le_trans ‹_ ≤ 100› (by decide) | with_reducible exact Int.natCast_nonneg _ | with_reducible exact n62 _ | with_reducible exact l62 ‹_ ≤ 400› (by decide) | with_reducible exact l62 ‹_ ≤ 100› (by decide) | omega))) hk

theorem fdiv_spec {C : Cx} (H : Facts C) {n m k : Nat} {f g : Fr2} (hf1 : BdP n f.1) (hf2 : BdP n f.2) (hg1 : BdP m g.1) (hg2 : BdP m g.2) (hnm : n + m ≤ 1000)
    (lf1 : f.1.length ≤ 3) (lf2 : f.2.length ≤ 3) (lg1 : g.1.length ≤ 3) (lg2 : g.2.length ≤ 3)
    (hk1 : 1 + f.1.length * g.2.length * (n + m + 1) ≤ k) (hk2 : 1 + f.2.length * g.1.length * (n + m + 1) ≤ k) (hk : k * 2 ^ 16 ≤ Lim)
    (lt : (qmul f.1 g.2).length ≤ 3) (lb : (qmul f.2 g.1).length ≤ 3) (ta : Tr (qmul f.1 g.2)) (tb : Tr (qmul f.2 g.1)) (hb0 : qmul f.2 g.1 ≠ []) (hg : qmul f.1 g.2 ≠ [] → (qgcd (qmul f.1 g.2) (qmul f.2 g.1)).length = 1) :
    FnSpec C 9 (Str.ofString "fdiv") [encF f, encF g] (.val (encF (fdiv f g))) := by
  have p1 := hf1.qmul hg2
  have p3 := hf2.qmul hg1
  have pl : ∀ {a b : P}, a.length ≤ 3 → b.length ≤ 3 → a.length * (b.length * (n + m + 1)) ≤ 9009 := by
    intro a b h1 h2
    have : a.length * (b.length * (n + m + 1)) ≤ 3 * (3 * 1001) := Nat.mul_le_mul h1 (Nat.mul_le_mul h2 (by first | with_reducible assumption | with_reducible exact Nat.le_trans ‹_ ≤ 400› (by decide) | with_reducible exact Nat.le_trans ‹_ ≤ 100› (by decide) | with_reducible exact Int.natCast_nonneg _ | with_reducible exact n62 _ | with_reducible exact l62 ‹_ ≤ 400› (by decide) | with_reducible exact l62 ‹_ ≤ 100› (by decide) | omega))
    omega
  have b1 := pl lf1 lg2
  have b3 := pl lf2 lg1
  have hL : Lim = 67108864 := rfl
  have hq : BdP k (qmul f.1 g.2) := p1.mono (by rw [Nat.mul_assoc] at hk1; omega)
  have hb : BdP k (qmul f.2 g.1) := p3.mono (by rw [Nat.mul_assoc] at hk2; omega)
  refine FnSpec.intro (H.defs 35 _ dFdiv.2) (by decide +kernel) (by decide +kernel) (by rfl) ?_ ?_
  · exact fun pm cd doc vs h => len2 h rfl fun _ _ => rfl
  intro env ok
  show ExA C _ dFdiv.1.body [some (.val (encF f)), some (.val (encF g)), none, none] [] _
  refine ExA.cons' <| StA.ret <| EvA.call 2 rfl (H.defs 31 _ dFmake.2).at <| ArA.cons <| EvA.call 3 rfl (H.defs 23 _ dQmul.2).at <| ArA.cons <| EvA.sub <| EvA.name 0 rfl rfl <| EvA.cint <| SubA.tupN 0 rfl (by simp) <| ArA.cons <| EvA.sub <| EvA.name 1 rfl rfl <| EvA.cint <| SubA.tupN 1 rfl (by simp) <|
    ArA.nil ⟨_, _, rfl, (qmul_spec H hf1 hg2 (by first | with_reducible assumption | with_reducible exact Nat.le_trans ‹_ ≤ 400› (by decide) | with_reducible exact Nat.le_trans ‹_ ≤ 100› (by decide) | with_reducible exact Int.natCast_nonneg _ | with_reducible exact n62 _ | with_reducible exact l62 ‹_ ≤ 400› (by decide) | with_reducible exact l62 ‹_ ≤ 100› (by decide) | omega) (by first | with_reducible assumption | with_reducible exact Nat.le_trans ‹_ ≤ 400› (by decide) | with_reducible exact Nat.le_trans ‹_ ≤ 100› (by decide) | with_reducible exact Int.natCast_nonneg _ | with_reducible exact n62 _ | with_reducible exact l62 ‹_ ≤ 400› (by decide) | with_reducible exact l62 ‹_ ≤ 100› (by decide) | omega) (by first | with_reducible assumption | with_reducible exact Nat.le_trans ‹_ ≤ 400› (by decide) | with_reducible exact Nat.le_trans ‹_ ≤ 100› (by decide) | with_reducible exact Int.natCast_nonneg _ | with_reducible exact n62 _ | with_reducible exact l62 ‹_ ≤ 400› (by decide) | with_reducible exact l62 ‹_ ≤ 100› (by decide) | omega)).le (show 4 ≤ 8 by decide), ?_⟩
  refine ArA.cons <| EvA.call 3 rfl (H.defs 23 _ dQmul.2).at <| ArA.cons <| EvA.sub <| EvA.name 0 rfl rfl <| EvA.cint <| SubA.tupN 1 rfl (by simp) <| ArA.cons <| EvA.sub <| EvA.name 1 rfl rfl <| EvA.cint <| SubA.tupN 0 rfl (by simp) <|
    ArA.nil ⟨_, _, rfl, (qmul_spec H hf2 hg1 (by first | with_reducible assumption | with_reducible exact Nat.le_trans ‹_ ≤ 400› (by decide) | with_reducible exact Nat.le_trans ‹_ ≤ 100› (by decide) | with_reducible exact Int.natCast_nonneg _ | with_reducible exact n62 _ | with_reducible exact l62 ‹_ ≤ 400› (by decide) | with_reducible exact l62 ‹_ ≤ 100› (by decide) | omega) (by first | with_reducible assumption | with_reducible exact Nat.le_trans ‹_ ≤ 400› (by decide) | with_reducible exact Nat.le_trans ‹_ ≤ 100› (by decide) | with_reducible exact Int.natCast_nonneg _ | with_reducible exact n62 _ | with_reducible exact l62 ‹_ ≤ 400› (by decide) | with_reducible exact l62 ‹_ ≤ 100› (by decide) | omega) (by first | with_reducible assumption | with_reducible exact Nat.le_trans ‹_ ≤ 400› (by decide) | with_reducible exact Nat.le_trans ‹_ ≤ 100› (by decide) | with_reducible exact Int.natCast_nonneg _ | with_reducible exact n62 _ | with_reducible exact l62 ‹_ ≤ 400› (by decide) | with_reducible exact l62 ‹_ ≤ 100› (by decide) | omega)).le (show 4 ≤ 8 by decide), ?_⟩
  refine ArA.nil ⟨_, _, rfl, fmake_spec H hq hb (by first | with_reducible assumption | with_reducible exact Nat.le_trans ‹_ ≤ 400› (by decide) | with_reducible exact Nat.le_trans ‹_ ≤ 100› (by decide) | with_reducible exact Int.natCast_nonneg _ | with_reducible exact n62 _ | with_reducible exact l62 ‹_ ≤ 400› (by decide) | with_reducible exact l62 ‹_ ≤ 100› (by decide) | omega) ?_ (by first | with_reducible assumption | with_reducible exact Nat.le_trans ‹_ ≤ 400› (by decide) | with_reducible exact Nat.le_trans ‹_ ≤ 100› (by decide) | with_reducible exact Int.natCast_nonneg _ | with_reducible exact n62 _ | with_reducible exact l62 ‹_ ≤ 400› (by decide) | with_reducible exact l62 ‹_ ≤ 100› (by decide) | omega) (by first | with_reducible assumption | with_reducible exact Nat.le_trans ‹_ ≤ 400› (by decide) | with_reducible exact Nat.le_trans ‹_ ≤ 100› (by decide) | with_reducible exact Int.natCast_nonneg _ | with_reducible exact n62 _ | with_reducible exact l62 ‹_ ≤ 400› (by decide) | with_reducible exact l62 ‹_ ≤ 100› (by decide) | omega) ta tb hb0 hg, .inl rfl⟩
  exact Nat.le_trans (Nat.mul_le_mul_left _ (pow_le2 (by first | with_reducible assumption | with_reducible exact Nat.le_trans ‹_ ≤ 400› (by decide) | with_reducible exact Nat.le_trans ‹_ ≤ 100› (by decide) | with_reducible exact Int.natCast_nonneg _ | with_reducible exact n62 _ | with_reducible exact l62 ‹_ ≤ 400› (by decide) | with_reducible exact l62 ‹_ ≤ 100› (by decide) | omega))) hk

theorem fat_spec {C : Cx} (H : Facts C) {n m : Nat} {f : Fr2} {r : Rat} (h1 : BdP n f.1) (h2 : BdP n f.2) (hr : Bd m r) (hn : 1 ≤ n) (hnm : n + m ≤ 10000) (l1 : f.1.length ≤ 10) (l2 : f.2.length ≤ 10) (h0 : qat f.2 r ≠ 0) :
    FnSpec C 5 (Str.ofString "fat") [encF f, encQ r] (.val (encQ (qat f.1 r / qat f.2 r))) := by
  have hL : Lim = 67108864 := rfl
  have pl : ∀ {p : P}, p.length ≤ 10 → (p.length + 1) * (n + m + 1) ≤ 11 * 10001 := fun h => Nat.mul_le_mul (by first | with_reducible assumption | with_reducible exact Nat.le_trans ‹_ ≤ 400› (by decide) | with_reducible exact Nat.le_trans ‹_ ≤ 100› (by decide) | with_reducible exact Int.natCast_nonneg _ | with_reducible exact n62 _ | with_reducible exact l62 ‹_ ≤ 400› (by decide) | with_reducible exact l62 ‹_ ≤ 100› (by decide) | omega) (by first | with_reducible assumption | with_reducible exact Nat.le_trans ‹_ ≤ 400› (by decide) | with_reducible exact Nat.le_trans ‹_ ≤ 100› (by decide) | with_reducible exact Int.natCast_nonneg _ | with_reducible exact n62 _ | with_reducible exact l62 ‹_ ≤ 400› (by decide) | with_reducible exact l62 ‹_ ≤ 100› (by decide) | omega)
  have pl2 : ∀ {p : P}, p.length ≤ 10 → p.length * (n + m + 1) ≤ 10 * 10001 := fun h => Nat.mul_le_mul (by first | with_reducible assumption | with_reducible exact Nat.le_trans ‹_ ≤ 400› (by decide) | with_reducible exact Nat.le_trans ‹_ ≤ 100› (by decide) | with_reducible exact Int.natCast_nonneg _ | with_reducible exact n62 _ | with_reducible exact l62 ‹_ ≤ 400› (by decide) | with_reducible exact l62 ‹_ ≤ 100› (by decide) | omega) (by first | with_reducible assumption | with_reducible exact Nat.le_trans ‹_ ≤ 400› (by decide) | with_reducible exact Nat.le_trans ‹_ ≤ 100› (by decide) | with_reducible exact Int.natCast_nonneg _ | with_reducible exact n62 _ | with_reducible exact l62 ‹_ ≤ 400› (by decide) | with_reducible exact l62 ‹_ ≤ 100› (by decide) | omega)
  have q1 := qat_spec H h1 hr hn (by have := pl l1; omega) (by first | with_reducible assumption | with_reducible exact Nat.le_trans ‹_ ≤ 400› (by decide) | with_reducible exact Nat.le_trans ‹_ ≤ 100› (by decide) | with_reducible exact Int.natCast_nonneg _ | with_reducible exact n62 _ | with_reducible exact l62 ‹_ ≤ 400› (by decide) | with_reducible exact l62 ‹_ ≤ 100› (by decide) | omega)
  have q2 := qat_spec H h2 hr hn (by have := pl l2; omega) (by first | with_reducible assumption | with_reducible exact Nat.le_trans ‹_ ≤ 400› (by decide) | with_reducible exact Nat.le_trans ‹_ ≤ 100› (by decide) | with_reducible exact Int.natCast_nonneg _ | with_reducible exact n62 _ | with_reducible exact l62 ‹_ ≤ 400› (by decide) | with_reducible exact l62 ‹_ ≤ 100› (by decide) | omega)
  refine FnSpec.intro (H.defs 36 _ dFat.2) (by decide +kernel) (by decide +kernel) (by rfl) ?_ ?_
  · exact fun pm cd doc vs h => len2 h rfl fun _ _ => rfl
  intro env ok
  show ExA C _ dFat.1.body [some (.val (encF f)), some (.val (encQ r)), none, none, none, none] [] _
  refine ExA.cons <| StA.assignN 2 rfl (.inl rfl) <| EvA.call 3 rfl (H.defs 27 _ dQat.2).at <| ArA.cons <| EvA.sub <| EvA.name 0 rfl rfl <| EvA.cint <| SubA.tupN 1 rfl (by simp) <| ArA.cons <| EvA.name 1 rfl rfl <| ArA.nil ⟨_, _, rfl, q2.1, ⟨rfl, ?_⟩⟩
  refine ExA.cons' <| StA.ret <| EvA.ifexp <| TrA.cmp <| EvA.name 2 rfl rfl <| EvA.glob 4 rfl H.g_R0 <| OpA.eq (depth_encQ _ _) ⟨_, rfl, ?_⟩
  rw [eqv_R0, decide_eq_false h0]
  refine EvA.call 5 rfl (H.defs 11 _ dRdiv.2).at <| ArA.cons <| EvA.call 3 rfl (H.defs 27 _ dQat.2).at <| ArA.cons <| EvA.sub <| EvA.name 0 rfl rfl <| EvA.cint <| SubA.tupN 0 rfl (by simp) <| ArA.cons <| EvA.name 1 rfl rfl <| ArA.nil ⟨_, _, rfl, q1.1, ?_⟩
  exact ArA.cons <| EvA.name 2 rfl rfl <| ArA.nil ⟨_, _, rfl, (rdiv_spec H q1.2 q2.2 (by have := pl2 l1; have := pl2 l2; omega) h0).le (show 3 ≤ 4 by decide), .inl rfl⟩

noncomputable abbrev M := List P
noncomputable def encM (a : M) : PyData := .list (a.map encP)
theorem shape_spec {C : Cx} (H : Facts C) {r : P} {a : M} (ha : a.length ≤ 400) (hr : r.length ≤ 400) : FnSpec C 1 (Str.ofString "shape") [encM (r :: a)] (.val (.tuple [.int (a.length + 1), .int r.length])) := by
  refine FnSpec.intro (H.defs 38 _ dShape.2) (by decide +kernel) (by decide +kernel) (by rfl) ?_ ?_
  · exact fun pm cd doc vs h => len1 h rfl fun _ => rfl
  intro env ok
  show ExA C _ dShape.1.body [some (.val (encM (r :: a))), none] [] _
  refine ExA.cons' <| StA.ret <| EvA.tuple <| ArA.cons <| EvA.callB 1 rfl H.b_len.1 H.b_len.2 <| ArA.cons <| EvA.name 0 rfl rfl <| ArA.nil <| ClA.len_list (.inl rfl) (by first | with_reducible exact lz ‹_ ≤ 400› (by decide) | with_reducible exact lz ‹_ ≤ 100› (by decide) | with_reducible exact lz ‹_ ≤ 50› (by decide) | with_reducible exact lz62 ‹_ ≤ 400› (by decide) | with_reducible exact lz62 ‹_ ≤ 100› (by decide) | with_reducible exact lz62 ‹_ ≤ 50› (by decide) | (simp; omega)) ?_
  refine ArA.cons <| EvA.ifexp <| TrA.cmp <| EvA.callB 1 rfl H.b_len.1 H.b_len.2 <| ArA.cons <| EvA.name 0 rfl rfl <| ArA.nil <| ClA.len_list (.inl rfl) (by first | with_reducible exact lz ‹_ ≤ 400› (by decide) | with_reducible exact lz ‹_ ≤ 100› (by decide) | with_reducible exact lz ‹_ ≤ 50› (by decide) | with_reducible exact lz62 ‹_ ≤ 400› (by decide) | with_reducible exact lz62 ‹_ ≤ 100› (by decide) | with_reducible exact lz62 ‹_ ≤ 50› (by decide) | (simp; omega)) <| EvA.cint <| OpA.gt ⟨_, rfl, ?_⟩
  rw [decide_eq_true (by simp)]
  refine EvA.callB 1 rfl H.b_len.1 H.b_len.2 <| ArA.cons <| EvA.sub <| EvA.name 0 rfl rfl <| EvA.cint <| SubA.at 0 (.inl rfl) rfl rfl (by first | with_reducible exact lz ‹_ ≤ 400› (by decide) | with_reducible exact lz ‹_ ≤ 100› (by decide) | with_reducible exact lz ‹_ ≤ 50› (by decide) | with_reducible exact lz62 ‹_ ≤ 400› (by decide) | with_reducible exact lz62 ‹_ ≤ 100› (by decide) | with_reducible exact lz62 ‹_ ≤ 50› (by decide) | (simp; omega)) <| ArA.nil <| ClA.len_list (.inl rfl) (by first | with_reducible exact lz ‹_ ≤ 400› (by decide) | with_reducible exact lz ‹_ ≤ 100› (by decide) | with_reducible exact lz ‹_ ≤ 50› (by decide) | with_reducible exact lz62 ‹_ ≤ 400› (by decide) | with_reducible exact lz62 ‹_ ≤ 100› (by decide) | with_reducible exact lz62 ‹_ ≤ 50› (by decide) | (simp; omega)) ?_
  refine ArA.nil ⟨_, rfl, by simp [sizeLine], .inl ?_⟩
  simp
end Mine
end
section
open PySem PySem.W PySem.Calls PyProof.Rows
set_option linter.unusedVariables false
namespace Mine
set_option maxRecDepth 100000

noncomputable def dZtrim : { x : DefText // nthDef 46 = some x } := ⟨_, rfl⟩
noncomputable def dZadd : { x : DefText // nthDef 47 = some x } := ⟨_, rfl⟩
noncomputable def dZneg : { x : DefText // nthDef 48 = some x } := ⟨_, rfl⟩
noncomputable def dZsub : { x : DefText // nthDef 49 = some x } := ⟨_, rfl⟩
noncomputable def dZscale : { x : DefText // nthDef 50 = some x } := ⟨_, rfl⟩
noncomputable def dZmul : { x : DefText // nthDef 51 = some x } := ⟨_, rfl⟩
noncomputable def dZat : { x : DefText // nthDef 52 = some x } := ⟨_, rfl⟩

theorem getZ {p : Z} {j : Nat} {q : Int} (h : p[j]? = some q) : (p.map PyData.int)[j]? = some (.int q) := by rw [List.getElem?_map, h]; rfl
theorem eqv_int (a b : Int) : PyData.eqv (.int a) (.int b) = decide (a = b) := by
  simp only [PyData.eqv]
  by_cases h : a = b <;> simp [h]

inductive JZtrim (p : Z) (n : Nat) (σ : Sg) (μ : Mu) : Prop
  | mk  (h1 : n ≤ p.length) (h2 : σ = [some (.val (encZ p)), some (.val (.int n)), none, none]) (h3 : μ = []) (h4 : trim 0 (p.take n) = trim 0 p)
theorem ztrim_spec {C : Cx} (H : Facts C) {p : Z} (hp : p.length ≤ 1000) : FnSpec C 1 (Str.ofString "ztrim") [encZ p] (.val (encZ (trim 0 p))) := by
  refine FnSpec.intro (H.defs 46 _ dZtrim.2) (by decide +kernel) (by decide +kernel) (by rfl) ?_ ?_
  · exact fun pm cd doc vs h => len1 h rfl fun _ => rfl
  intro env ok
  show ExA C _ dZtrim.1.body [some (.val (encZ p)), none, none, none] [] _
  refine ExA.cons <| StA.assignN 1 rfl (.inl rfl) <| EvA.callB 2 rfl H.b_len.1 H.b_len.2 <| ArA.cons <| EvA.name 0 rfl rfl <| ArA.nil <| ClA.len_list (.inl rfl) (by first | with_reducible exact lz ‹_ ≤ 400› (by decide) | with_reducible exact lz ‹_ ≤ 100› (by decide) | with_reducible exact lz ‹_ ≤ 50› (by decide) | with_reducible exact lz62 ‹_ ≤ 400› (by decide) | with_reducible exact lz62 ‹_ ≤ 100› (by decide) | with_reducible exact lz62 ‹_ ≤ 50› (by decide) | (simp; omega)) ⟨rfl, ?_⟩
  refine ExA.cons <| StA.while ((JZtrim p)) p.length ⟨Nat.le_refl _, by simp, rfl, by simp⟩ ?_
  rintro n σ μ ⟨hn, rfl, rfl, ht⟩
  refine TrA.and_cons <| TrA.cmp <| EvA.name 1 rfl rfl <| EvA.cint <| OpA.gt ⟨_, rfl, ?_⟩
  have fin : trim 0 (p.take n) = p.take n → ExA C ⟨dZtrim.1.scope.names, env, 0, ok⟩ (dZtrim.1.body.drop 2) [some (.val (encZ p)), some (.val (.int n)), none, none] [] (KRetIs (.val (encZ (trim 0 p)))) := by
    intro e
    refine ExA.cons' <| StA.ret <| JdW.frz <| EvA.callT 3 rfl H.b_list.1 H.b_list.2 <| ArA.cons <| JdW.frz <| EvA.slice <| EvA.name 0 rfl rfl <| PtA.no <| PtA.yes <| EvA.name 1 rfl rfl ⟨_, rfl, _, .inl rfl, by simp [sizeLine]; omega, fun l => ⟨l, _, [], _, rfl, rfl, ?_⟩⟩
    rw [pick_to]
    refine ArA.nil <| ClA.list (.inl rfl) (by first | with_reducible exact lzs ‹_ ≤ 400› (by decide) | with_reducible exact lzs ‹_ ≤ 100› (by decide) | with_reducible exact lzs ‹_ ≤ 50› (by decide) | (simp [sizeLine]; omega)) fun l => ⟨l, _, [], _, rfl, rfl, ?_⟩
    left
    rw [← ht, e, encZ, List.map_take]
  cases n with
  | zero =>
    rw [decide_eq_false (by first | with_reducible assumption | with_reducible exact Nat.le_trans ‹_ ≤ 400› (by decide) | with_reducible exact Nat.le_trans ‹_ ≤ 100› (by decide) | with_reducible exact Int.natCast_nonneg _ | with_reducible exact n62 _ | with_reducible exact l62 ‹_ ≤ 400› (by decide) | with_reducible exact l62 ‹_ ≤ 100› (by decide) | omega)]
    exact ⟨rfl, fin (by simp [trim])⟩
  | succ m =>
    rw [decide_eq_true (by first | with_reducible assumption | with_reducible exact Nat.le_trans ‹_ ≤ 400› (by decide) | with_reducible exact Nat.le_trans ‹_ ≤ 100› (by decide) | with_reducible exact Int.natCast_nonneg _ | with_reducible exact n62 _ | with_reducible exact l62 ‹_ ≤ 400› (by decide) | with_reducible exact l62 ‹_ ≤ 100› (by decide) | omega)]
    have hm : m < p.length := by omega
    have hget : p[m]? = some p[m] := by simp [hm]
    have ek : ((m + 1 : Nat) : Int) - 1 = (m : Int) := by omega
    refine TrA.and_cons <| TrA.cmp <| EvA.sub <| EvA.name 0 rfl rfl <| EvA.bin <| EvA.name 1 rfl rfl <| EvA.cint <| OpA.sub <| SubA.at m (.inl rfl) ek (getZ hget) (by first | with_reducible exact lz ‹_ ≤ 400› (by decide) | with_reducible exact lz ‹_ ≤ 100› (by decide) | with_reducible exact lz ‹_ ≤ 50› (by decide) | with_reducible exact lz62 ‹_ ≤ 400› (by decide) | with_reducible exact lz62 ‹_ ≤ 100› (by decide) | with_reducible exact lz62 ‹_ ≤ 50› (by decide) | (simp; omega)) <| EvA.cint <| OpA.eq (by simp [PyData.depth]) ⟨_, rfl, ?_⟩
    rw [bool_not_eqv]
    have hsp : p.take (m + 1) = p.take m ++ [p[m]] := by rw [List.take_add_one, hget]; rfl
    by_cases h0 : p[m] = 0
    · rw [decide_eq_true h0]
      refine TrA.and_nil ?_
      refine ExA.cons <| StA.aug 1 rfl (.inl rfl) rfl <| EvA.cint <| OpA.isub ⟨rfl, ExA.nil ⟨m, by omega, by omega, ?_, rfl, ?_⟩⟩
      · rw [ek]; rfl
      · rw [hsp, trim_snoc, if_pos h0] at ht
        exact ht
    · rw [decide_eq_false h0]
      refine ⟨rfl, fin ?_⟩
      rw [hsp, trim_snoc, if_neg h0]

/-- an item of a list, nought behind its end -/
theorem EvA.getZ {C : Cx} {L : Lx} {σ : Sg} {μ : Mu} (H : Facts C) {x y : Str} {k1 k2 : NameKind} {p1 p2 p3 p4 p5 p6 p7 p8 p9 : Pos} {c : Nat} {i : Nat} {a : Z} {Q : WV → Sg → Mu → Prop} (ia ii il : Nat)
    (ha : L.nm[ia]? = some (x, k1)) (hai : σ[ia]? = some (some (.val (encZ a)))) (hi : L.nm[ii]? = some (y, k2)) (hii : σ[ii]? = some (some (.val (.int i))))
    (hl : L.nm[il]? = some (Str.ofString "len", .globalImplicit)) (hn : a.length ≤ 1000) (h : Q (.val (.int (a.getD i 0))) σ μ) :
    EvA C L (.IfExp (.Compare (.Name y p1) [.Lt] [.Call (.Name (Str.ofString "len") p2) [.Name x p3] [] p4] p5) (.Subscript (.Name x p6) (.Name y p7) p8) (.Constant (.int 0) c p9) pos) σ μ Q := by
  refine EvA.ifexp <| TrA.cmp <| EvA.name ii hi hii <| EvA.callB il hl H.b_len.1 H.b_len.2 <| ArA.cons <| EvA.name ia ha hai <| ArA.nil <| ClA.len_list (.inl rfl) (by first | with_reducible exact lz ‹_ ≤ 400› (by decide) | with_reducible exact lz ‹_ ≤ 100› (by decide) | with_reducible exact lz ‹_ ≤ 50› (by decide) | with_reducible exact lz62 ‹_ ≤ 400› (by decide) | with_reducible exact lz62 ‹_ ≤ 100› (by decide) | with_reducible exact lz62 ‹_ ≤ 50› (by decide) | (simp; omega)) <| OpA.lt ⟨_, rfl, ?_⟩
  rw [List.length_map, lt_int_nat]
  by_cases hlt : i < a.length
  · rw [decide_eq_true hlt]
    refine EvA.sub <| EvA.name ia ha hai <| EvA.name ii hi hii <| SubA.at i (.inl rfl) rfl (Mine.getZ (q := a.getD i 0) (by simp [List.getD_eq_getElem?_getD, hlt])) (by first | with_reducible exact lz ‹_ ≤ 400› (by decide) | with_reducible exact lz ‹_ ≤ 100› (by decide) | with_reducible exact lz ‹_ ≤ 50› (by decide) | with_reducible exact lz62 ‹_ ≤ 400› (by decide) | with_reducible exact lz62 ‹_ ≤ 100› (by decide) | with_reducible exact lz62 ‹_ ≤ 50› (by decide) | (simp; omega)) h
  · rw [decide_eq_false hlt]
    refine EvA.cint ?_
    have e : a.getD i 0 = 0 := by simp [List.getD_eq_getElem?_getD, hlt]
    rw [e] at h
    exact h

theorem zadd_spec {C : Cx} (H : Facts C) {a b : Z} (la : a.length ≤ 1000) (lb : b.length ≤ 1000) :
    FnSpec C 2 (Str.ofString "zadd") [encZ a, encZ b] (.val (encZ (zadd a b))) := by
  refine FnSpec.intro (H.defs 47 _ dZadd.2) (by decide +kernel) (by decide +kernel) (by rfl) ?_ ?_
  · exact fun pm cd doc vs h => len2 h rfl fun _ _ => rfl
  intro env ok
  show ExA C _ dZadd.1.body [some (.val (encZ a)), some (.val (encZ b)), none, none, none, none, none] [] _
  refine ExA.cons <| StA.assignN 2 rfl (.inl rfl) <| EvA.callB 3 rfl H.b_max.1 H.b_max.2 <| ArA.cons <| EvA.callB 4 rfl H.b_len.1 H.b_len.2 <| ArA.cons <| EvA.name 0 rfl rfl <| ArA.nil <| ClA.len_list (.inl rfl) (by first | with_reducible exact lz ‹_ ≤ 400› (by decide) | with_reducible exact lz ‹_ ≤ 100› (by decide) | with_reducible exact lz ‹_ ≤ 50› (by decide) | with_reducible exact lz62 ‹_ ≤ 400› (by decide) | with_reducible exact lz62 ‹_ ≤ 100› (by decide) | with_reducible exact lz62 ‹_ ≤ 50› (by decide) | (simp; omega)) <| ArA.cons <| EvA.callB 4 rfl H.b_len.1 H.b_len.2 <| ArA.cons <| EvA.name 1 rfl rfl <| ArA.nil <| ClA.len_list (.inl rfl) (by first | with_reducible exact lz ‹_ ≤ 400› (by decide) | with_reducible exact lz ‹_ ≤ 100› (by decide) | with_reducible exact lz ‹_ ≤ 50› (by decide) | with_reducible exact lz62 ‹_ ≤ 400› (by decide) | with_reducible exact lz62 ‹_ ≤ 100› (by decide) | with_reducible exact lz62 ‹_ ≤ 50› (by decide) | (simp; omega)) <| ArA.nil <| ClA.max ⟨rfl, ?_⟩
  rw [List.length_map, List.length_map, max_nat]
  refine ExA.cons' <| StA.ret <| EvA.call 5 rfl (H.defs 46 _ dZtrim.2).at <| ArA.cons <| JdW.frz <| EvA.compM 1 rfl (by decide +kernel) (by rfl) ?_
  refine ItA.range1 6 rfl H.b_range.1 H.b_range.2 <| EvA.name 2 rfl rfl ⟨_, rfl, by omega, by omega, ?_⟩
  refine ⟨[none, none, none, some (.val (encZ a)), some (.val (encZ b))], ((List.range (max a.length b.length)).map fun i => .int (a.getD i 0 + b.getD i 0)), ⟨⟨rfl, 0, rfl, rfl⟩, ⟨rfl, 1, rfl, rfl⟩, trivial⟩, by simp, by simp, by simp [sizeLine]; omega, ?_, ?_⟩
  · intro env' ok' i w hw
    obtain ⟨j, e, hlt, rfl⟩ := rng_get hw
    subst e
    replace hlt : j < max a.length b.length := hlt
    refine EvA.bin <| EvA.getZ H 3 1 2 rfl rfl rfl rfl rfl la <| EvA.getZ H 4 1 2 rfl rfl rfl rfl rfl lb <| OpA.add ⟨_, rfl, rfl, rfl, ?_⟩
    simp [hlt]
  · intro l
    refine ⟨l, _, [], _, rfl, rfl, ?_⟩
    have hs := ztrim_spec H (p := (List.range (max a.length b.length)).map fun i => a.getD i 0 + b.getD i 0) (by first | with_reducible exact lz ‹_ ≤ 400› (by decide) | with_reducible exact lz ‹_ ≤ 100› (by decide) | with_reducible exact lz ‹_ ≤ 50› (by decide) | with_reducible exact lz62 ‹_ ≤ 400› (by decide) | with_reducible exact lz62 ‹_ ≤ 100› (by decide) | with_reducible exact lz62 ‹_ ≤ 50› (by decide) | (simp; omega))
    have e : encZ ((List.range (max a.length b.length)).map fun i => a.getD i 0 + b.getD i 0) = .list ((List.range (max a.length b.length)).map fun i => .int (a.getD i 0 + b.getD i 0)) := by
      simp [encZ]
    rw [e] at hs
    exact ArA.nil ⟨_, .val _, rfl, hs, .inl rfl⟩

theorem zneg_spec {C : Cx} (H : Facts C) {p : Z} (hp : p.length ≤ 1000) : FnSpec C 1 (Str.ofString "zneg") [encZ p] (.val (encZ (zneg p))) := by
  refine FnSpec.intro (H.defs 48 _ dZneg.2) (by decide +kernel) (by decide +kernel) (by rfl) ?_ ?_
  · exact fun pm cd doc vs h => len1 h rfl fun _ => rfl
  intro env ok
  show ExA C _ dZneg.1.body [some (.val (encZ p))] [] _
  refine ExA.cons' <| StA.ret <| JdW.frz <| EvA.compM 1 rfl (by decide +kernel) (by rfl) <| ItA.list <| EvA.name 0 rfl rfl ⟨_, rfl, [none, none], p.map fun x => .int (-x), trivial, by simp, by simp, by simp [sizeLine]; omega, ?_, ?_⟩
  · intro env' ok' i w hw
    rw [List.map_map] at hw
    obtain ⟨x, hx, rfl⟩ := list_get hw
    exact EvA.un <| EvA.name 1 rfl rfl <| Op1.neg ⟨_, rfl, rfl, rfl, by simp [hx]⟩
  · intro l
    refine ⟨l, _, [], _, rfl, rfl, ?_⟩
    left
    simp [encZ, zneg]
theorem zneg_length (p : Z) : (zneg p).length = p.length := by simp [zneg]
theorem zsub_spec {C : Cx} (H : Facts C) {a b : Z} (la : a.length ≤ 1000) (lb : b.length ≤ 1000) :
    FnSpec C 3 (Str.ofString "zsub") [encZ a, encZ b] (.val (encZ (zsub a b))) := by
  refine FnSpec.intro (H.defs 49 _ dZsub.2) (by decide +kernel) (by decide +kernel) (by rfl) ?_ ?_
  · exact fun pm cd doc vs h => len2 h rfl fun _ _ => rfl
  intro env ok
  show ExA C _ dZsub.1.body [some (.val (encZ a)), some (.val (encZ b)), none, none] [] _
  refine ExA.cons' <| StA.ret <| EvA.call 2 rfl (H.defs 47 _ dZadd.2).at <| ArA.cons <| EvA.name 0 rfl rfl <| ArA.cons <| EvA.call 3 rfl (H.defs 48 _ dZneg.2).at <| ArA.cons <| EvA.name 1 rfl rfl <| ArA.nil ⟨_, _, rfl, (zneg_spec H lb).le (show 1 ≤ 2 by decide), ArA.nil ⟨_, _, rfl, zadd_spec H la (by rw [zneg_length]; exact lb), .inl rfl⟩⟩

noncomputable def BdZ (n : Nat) (p : Z) : Prop := ∀ q ∈ p, q.natAbs < 2 ^ n
theorem zscale_spec {C : Cx} (H : Facts C) {n m : Nat} {p : Z} {r : Int} (hp : BdZ n p) (hr : r.natAbs < 2 ^ m) (hn : n + m ≤ Lim) (lp : p.length ≤ 1000) :
    FnSpec C 1 (Str.ofString "zscale") [encZ p, .int r] (.val (encZ (zscale p r))) := by
  refine FnSpec.intro (H.defs 50 _ dZscale.2) (by decide +kernel) (by decide +kernel) (by rfl) ?_ ?_
  · exact fun pm cd doc vs h => len2 h rfl fun _ _ => rfl
  intro env ok
  show ExA C _ dZscale.1.body [some (.val (encZ p)), some (.val (.int r))] [] _
  have hL : Lim = 67108864 := rfl
  refine ExA.cons' <| StA.ret <| EvA.ifexp <| TrA.cmp <| EvA.name 1 rfl rfl <| EvA.cint <| OpA.ne (by simp [PyData.depth]) ⟨_, rfl, ?_⟩
  rw [bool_not_eqv]
  by_cases h0 : r = 0
  · subst h0
    show EvA C _ _ _ _ _
    refine JdW.frz <| EvA.list <| ArA.nil ⟨_, rfl, by simp, fun l => ⟨l, _, [], _, rfl, rfl, ?_⟩⟩
    left
    simp [encZ, zscale]
  · rw [decide_eq_false h0]
    show EvA C _ _ _ _ _
    refine JdW.frz <| EvA.compM 1 rfl (by decide +kernel) (by rfl) <| ItA.list <| EvA.name 0 rfl rfl ⟨_, rfl, [none, none, some (.val (.int r))], p.map fun x => .int (x * r), ⟨⟨rfl, 1, rfl, rfl⟩, trivial⟩, by simp, by simp, by simp [sizeLine]; omega, ?_, ?_⟩
    · intro env' ok' i w hw
      rw [List.map_map] at hw
      obtain ⟨x, hx, rfl⟩ := list_get hw
      exact EvA.bin <| EvA.name 1 rfl rfl <| EvA.name 2 rfl rfl <| OpA.mul (mulOk (hp x (List.mem_of_getElem? hx)) hr (by first | with_reducible assumption | with_reducible exact Nat.le_trans ‹_ ≤ 400› (by decide) | with_reducible exact Nat.le_trans ‹_ ≤ 100› (by decide) | with_reducible exact Int.natCast_nonneg _ | with_reducible exact n62 _ | with_reducible exact l62 ‹_ ≤ 400› (by decide) | with_reducible exact l62 ‹_ ≤ 100› (by decide) | omega)) ⟨_, rfl, rfl, rfl, by simp [hx]⟩
    · intro l
      refine ⟨l, _, [], _, rfl, rfl, ?_⟩
      left
      simp [encZ, zscale, h0]

theorem zmulRow_length (i : Nat) (l : Int) : ∀ (b : Z) (j : Nat) (F : Z), (zmulRow i l j b F).length = F.length
  | [], _, _ => rfl
  | r :: rs, j, F => by simp [zmulRow, zmulRow_length i l rs]
theorem len_zero_iffZ (a : Z) : decide (((List.map PyData.int a).length : Int) = 0) = decide (a = []) := by
  cases a <;> simp <;> omega
theorem encZ_get {a : Z} {i : Nat} {d : PyData} (h : (a.map PyData.int)[i]? = some d) : ∃ q, a[i]? = some q ∧ d = .int q := list_get h
theorem set_map_int (F : Z) (j : Nat) (q : Int) : (F.map PyData.int).set j (.int q) = (F.set j q).map .int := by rw [List.map_set]

inductive JZmul (a b : Z) (l : Addr) (i : Nat) (σ : Sg) (μ : Mu) : Prop
  | mk (o1 : Option WV) (o2 : Option WV) (o3 : Option WV) (o4 : Option WV) (F : Z) (h1 : σ = [some (.val (encZ a)), some (.val (encZ b)), some (.adr l), o1, o2, o3, o4, none, none]) (h2 : μ = [(l, F.map PyData.int)]) (h3 : F.length = a.length + b.length - 1) (h4 : zmulRows b i (a.drop i) F = zmulRows b 0 a (List.replicate (a.length + b.length - 1) 0))
inductive JZmulRow (a b : Z) (l : Addr) (i : Nat) (q : Int) (F : Z) (j : Nat) (σ : Sg) (μ : Mu) : Prop
  | mk (o3 : Option WV) (o4 : Option WV) (G : Z) (h1 : σ = [some (.val (encZ a)), some (.val (encZ b)), some (.adr l), some (.val (.int i)), some (.val (.int q)), o3, o4, none, none]) (h2 : μ = [(l, G.map PyData.int)]) (h3 : G.length = a.length + b.length - 1) (h4 : zmulRow i q j (b.drop j) G = zmulRow i q 0 b F)
theorem zmul_spec {C : Cx} (H : Facts C) {n m : Nat} {a b : Z} (ha : BdZ n a) (hb : BdZ m b) (hn : n + m ≤ Lim) (la : a.length ≤ 400) (lb : b.length ≤ 400) :
    FnSpec C 1 (Str.ofString "zmul") [encZ a, encZ b] (.val (encZ (zmul a b))) := by
  refine FnSpec.intro (H.defs 51 _ dZmul.2) (by decide +kernel) (by decide +kernel) (by rfl) ?_ ?_
  · exact fun pm cd doc vs h => len2 h rfl fun _ _ => rfl
  intro env ok
  show ExA C _ dZmul.1.body [some (.val (encZ a)), some (.val (encZ b)), none, none, none, none, none, none, none] [] _
  have hL : Lim = 67108864 := rfl
  refine ExA.cons' <| StA.ite <| TrA.or_cons <| TrA.cmp <| EvA.callB 7 rfl H.b_len.1 H.b_len.2 <| ArA.cons <| EvA.name 0 rfl rfl <| ArA.nil <| ClA.len_list (.inl rfl) (by first | with_reducible exact lz ‹_ ≤ 400› (by decide) | with_reducible exact lz ‹_ ≤ 100› (by decide) | with_reducible exact lz ‹_ ≤ 50› (by decide) | with_reducible exact lz62 ‹_ ≤ 400› (by decide) | with_reducible exact lz62 ‹_ ≤ 100› (by decide) | with_reducible exact lz62 ‹_ ≤ 50› (by decide) | (simp; omega)) <| EvA.cint <| OpA.eq (by simp [PyData.depth]) ⟨_, rfl, ?_⟩
  rw [bool_not_eqv, len_zero_iffZ]
  by_cases ha0 : a = []
  · rw [decide_eq_true ha0]
    refine ExA.cons' <| StA.ret ?_
    refine JdW.frz <| EvA.list <| ArA.nil ⟨_, rfl, by simp, fun l => ⟨l, _, [], _, rfl, rfl, ?_⟩⟩
    left
    simp [encZ, zmul, ha0]
  rw [decide_eq_false ha0]
  refine TrA.or_cons <| TrA.cmp <| EvA.callB 7 rfl H.b_len.1 H.b_len.2 <| ArA.cons <| EvA.name 1 rfl rfl <| ArA.nil <| ClA.len_list (.inl rfl) (by first | with_reducible exact lz ‹_ ≤ 400› (by decide) | with_reducible exact lz ‹_ ≤ 100› (by decide) | with_reducible exact lz ‹_ ≤ 50› (by decide) | with_reducible exact lz62 ‹_ ≤ 400› (by decide) | with_reducible exact lz62 ‹_ ≤ 100› (by decide) | with_reducible exact lz62 ‹_ ≤ 50› (by decide) | (simp; omega)) <| EvA.cint <| OpA.eq (by simp [PyData.depth]) ⟨_, rfl, ?_⟩
  rw [bool_not_eqv, len_zero_iffZ]
  by_cases hb0 : b = []
  · rw [decide_eq_true hb0]
    refine ExA.cons' <| StA.ret ?_
    refine JdW.frz <| EvA.list <| ArA.nil ⟨_, rfl, by simp, fun l => ⟨l, _, [], _, rfl, rfl, ?_⟩⟩
    left
    simp [encZ, zmul, hb0]
  rw [decide_eq_false hb0]
  refine TrA.or_nil <| ExA.nil ?_
  have ha1 := List.length_pos_iff.mpr ha0
  have hb1 := List.length_pos_iff.mpr hb0
  refine ExA.cons <| StA.assignN 2 rfl (.inl rfl) <| EvA.bin <| JdW.frz <| EvA.list <| ArA.cons <| EvA.cint <| ArA.nil ⟨_, rfl, by simp [sizeLine], fun l => ⟨l, _, [], _, rfl, rfl, ?_⟩⟩
  refine EvA.bin <| EvA.bin <| EvA.callB 7 rfl H.b_len.1 H.b_len.2 <| ArA.cons <| EvA.name 0 rfl rfl <| ArA.nil <| ClA.len_list (.inl rfl) (by first | with_reducible exact lz ‹_ ≤ 400› (by decide) | with_reducible exact lz ‹_ ≤ 100› (by decide) | with_reducible exact lz ‹_ ≤ 50› (by decide) | with_reducible exact lz62 ‹_ ≤ 400› (by decide) | with_reducible exact lz62 ‹_ ≤ 100› (by decide) | with_reducible exact lz62 ‹_ ≤ 50› (by decide) | (simp; omega)) <| EvA.callB 7 rfl H.b_len.1 H.b_len.2 <| ArA.cons <| EvA.name 1 rfl rfl <| ArA.nil <| ClA.len_list (.inl rfl) (by first | with_reducible exact lz ‹_ ≤ 400› (by decide) | with_reducible exact lz ‹_ ≤ 100› (by decide) | with_reducible exact lz ‹_ ≤ 50› (by decide) | with_reducible exact lz62 ‹_ ≤ 400› (by decide) | with_reducible exact lz62 ‹_ ≤ 100› (by decide) | with_reducible exact lz62 ‹_ ≤ 50› (by decide) | (simp; omega)) <| OpA.add <| EvA.cint <| OpA.sub <| OpA.mulL (.inl rfl) (by first | with_reducible exact lz ‹_ ≤ 400› (by decide) | with_reducible exact lz ‹_ ≤ 100› (by decide) | with_reducible exact lz ‹_ ≤ 50› (by decide) | with_reducible exact lz62 ‹_ ≤ 400› (by decide) | with_reducible exact lz62 ‹_ ≤ 100› (by decide) | with_reducible exact lz62 ‹_ ≤ 50› (by decide) | (simp; omega)) (by first | with_reducible exact lz ‹_ ≤ 400› (by decide) | with_reducible exact lz ‹_ ≤ 100› (by decide) | with_reducible exact lz ‹_ ≤ 50› (by decide) | with_reducible exact lz62 ‹_ ≤ 400› (by decide) | with_reducible exact lz62 ‹_ ≤ 100› (by decide) | with_reducible exact lz62 ‹_ ≤ 50› (by decide) | (simp; omega)) (by first | with_reducible exact lz ‹_ ≤ 400› (by decide) | with_reducible exact lz ‹_ ≤ 100› (by decide) | with_reducible exact lz ‹_ ≤ 50› (by decide) | with_reducible exact lz62 ‹_ ≤ 400› (by decide) | with_reducible exact lz62 ‹_ ≤ 100› (by decide) | with_reducible exact lz62 ‹_ ≤ 50› (by decide) | (simp; omega)) fun l => ⟨rfl, ?_⟩
  have e0 : (List.replicate (((List.map PyData.int a).length : Int) + ((List.map PyData.int b).length : Int) - 1).toNat [PyData.int 0]).flatten = (List.replicate (a.length + b.length - 1) (0 : Int)).map PyData.int := by
    rw [flat_rep, List.map_replicate]; congr 1; exact tn_sub (by rw [List.length_map, List.length_map]; rfl) rfl
  rw [e0]
  refine ExA.cons <| StA.for <| ItA.enum 8 rfl H.b_enum.1 H.b_enum.2 <| EvA.name 0 rfl rfl ⟨_, rfl, ?_⟩
  refine ⟨(JZmul a b l), ⟨none, none, none, none, _, rfl, rfl, by simp, rfl⟩, ?_, ?_⟩
  · rintro i w σ μ hw ⟨o1, o2, o3, o4, F, rfl, rfl, hF, hM⟩
    obtain ⟨d, hd, rfl⟩ := enumW_get hw
    obtain ⟨q, hq, rfl⟩ := encZ_get hd
    have hi := (List.getElem?_eq_some_iff.mp hq).1
    have hbq := ha q (List.mem_of_getElem? hq)
    rw [drop_cons hq] at hM
    refine AgA.tup rfl <| AgA.name 3 rfl (.inl rfl) <| AgA.name 4 rfl (.inl rfl) ?_
    refine ExA.cons' <| StA.ite <| TrA.cmp <| EvA.name 4 rfl rfl <| EvA.cint <| OpA.ne (by simp [PyData.depth]) ⟨_, rfl, ?_⟩
    rw [bool_not_eqv]
    by_cases hq0 : q = 0
    · rw [decide_eq_true hq0]
      refine ExA.nil <| ExA.nil ⟨_, _, _, _, F, rfl, rfl, hF, ?_⟩
      rw [← hM]
      simp [zmulRows, hq0]
    rw [decide_eq_false hq0]
    refine ExA.cons' <| StA.for <| ItA.enum 8 rfl H.b_enum.1 H.b_enum.2 <| EvA.name 1 rfl rfl ⟨_, rfl, ?_⟩
    refine ⟨(JZmulRow a b l i q F), ⟨_, _, F, rfl, rfl, hF, rfl⟩, ?_, ?_⟩
    · rintro j w σ μ hw ⟨o3, o4, G, rfl, rfl, hG, hMG⟩
      obtain ⟨d, hd, rfl⟩ := enumW_get hw
      obtain ⟨r, hr, rfl⟩ := encZ_get hd
      have hj := (List.getElem?_eq_some_iff.mp hr).1
      have hbr := hb r (List.mem_of_getElem? hr)
      rw [drop_cons hr] at hMG
      have hlt : i + j < G.length := by omega
      have hget : G[i + j]? = some (G.getD (i + j) 0) := by simp [List.getD_eq_getElem?_getD, hlt]
      have hk : ((i : Int) + (j : Int)) = ((i + j : Nat) : Int) := by omega
      refine AgA.tup rfl <| AgA.name 5 rfl (.inl rfl) <| AgA.name 6 rfl (.inl rfl) ?_
      refine ExA.cons' <| StA.augS <| EvA.name 2 rfl rfl <| EvA.bin <| EvA.name 3 rfl rfl <| EvA.name 5 rfl rfl <| OpA.add ⟨l, _, _, i + j, _, rfl, .head _, rfl, by omega, by simp; omega, by rw [hk]; exact seqIndex_nat (by simpa using hlt), getZ hget, ?_⟩
      refine EvA.bin <| EvA.name 4 rfl rfl <| EvA.name 6 rfl rfl <| OpA.mul (mulOk hbq hbr (by first | with_reducible assumption | with_reducible exact Nat.le_trans ‹_ ≤ 400› (by decide) | with_reducible exact Nat.le_trans ‹_ ≤ 100› (by decide) | with_reducible exact Int.natCast_nonneg _ | with_reducible exact n62 _ | with_reducible exact l62 ‹_ ≤ 400› (by decide) | with_reducible exact l62 ‹_ ≤ 100› (by decide) | omega)) <| OpA.iadd ⟨[], [], _, rfl, rfl, ?_⟩
      refine ExA.nil ⟨_, _, G.set (i + j) (G.getD (i + j) 0 + q * r), rfl, ?_, by simpa using hG, hMG⟩
      rw [set_map_int]; rfl
    · rintro σ μ ⟨o3, o4, G, rfl, rfl, hG, hMG⟩
      rw [enumW_length, List.length_map] at *
      rw [List.drop_length] at hMG
      refine ExA.nil <| ExA.nil ⟨_, _, _, _, G, rfl, rfl, hG, ?_⟩
      rw [← hM]
      show _ = zmulRows b (i + 1) (a.drop (i + 1)) (if q ≠ 0 then zmulRow i q 0 b F else F)
      rw [if_pos hq0, ← hMG]; rfl
  · rintro σ μ ⟨o1, o2, o3, o4, F, rfl, rfl, hF, hM⟩
    rw [enumW_length, List.length_map, List.drop_length] at hM
    refine ⟨rfl, ?_⟩
    refine ExA.cons' <| StA.ret <| JdW.frz <| EvA.name 2 rfl rfl ⟨l, _, [], _, rfl, rfl, ?_⟩
    left
    have e : zmul a b = F := by
      unfold zmul
      rw [if_neg (by simp [ha0, hb0]), ← hM]; rfl
    rw [e]; rfl

theorem natAbs_add_lt {a b : Int} {n m : Nat} (ha : a.natAbs < 2 ^ n) (hb : b.natAbs < 2 ^ m) : (a + b).natAbs < 2 ^ (n + m + 1) := by
  have h1 := pow_le2 (show n ≤ n + m by omega)
  have h2 := pow_le2 (show m ≤ n + m by omega)
  rw [Nat.pow_succ]; omega
inductive JZat (p : Z) (r : Int) (i : Nat) (σ : Sg) (μ : Mu) : Prop
  | mk (o : Option WV) (h1 : σ = [some (.val (encZ p)), some (.val (.int r)), some (.val (.int (zat (p.drop (p.length - i)) r))), o, none]) (h2 : μ = [])
theorem zat_spec {C : Cx} (H : Facts C) {n m : Nat} {p : Z} {r : Int} (hp : BdZ n p) (hr : r.natAbs < 2 ^ m) (h1 : 1 ≤ n) (hn : 1 + (p.length + 1) * (n + m + 1) ≤ Lim) (lp : p.length ≤ 400) :
    FnSpec C 1 (Str.ofString "zat") [encZ p, .int r] (.val (.int (zat p r))) ∧ (zat p r).natAbs < 2 ^ (1 + p.length * (n + m + 1)) := by
  have hL : Lim = 67108864 := rfl
  have hb : ∀ (l : Z), BdZ n l → (zat l r).natAbs < 2 ^ (1 + l.length * (n + m + 1)) := by
    intro l
    induction l with
    | nil => intro _; exact Nat.pow_pos (by decide)
    | cons c t ih =>
      intro h
      have := natAbs_add_lt (natAbs_mul_lt (ih fun q hq => h q (.tail _ hq)) hr) (h c (.head _))
      refine Nat.lt_of_lt_of_le this (pow_le2 ?_)
      simp only [List.length_cons, Nat.add_mul, Nat.one_mul]; omega
  refine ⟨?_, hb p hp⟩
  refine FnSpec.intro (H.defs 52 _ dZat.2) (by decide +kernel) (by decide +kernel) (by rfl) ?_ ?_
  · exact fun pm cd doc vs h => len2 h rfl fun _ _ => rfl
  intro env ok
  show ExA C _ dZat.1.body [some (.val (encZ p)), some (.val (.int r)), none, none, none] [] _
  refine ExA.cons <| StA.assignN 2 rfl (.inl rfl) <| EvA.cint ⟨rfl, ?_⟩
  refine ExA.cons <| StA.for <| ItA.rev 4 rfl H.b_rev.1 H.b_rev.2 <| EvA.name 0 rfl rfl ⟨_, rfl, ?_⟩
  refine ⟨(JZat p r), ⟨none, by simp [zat], rfl⟩, ?_, ?_⟩
  · rintro i w σ μ hw ⟨o, rfl, rfl⟩
    rw [← List.map_reverse, List.map_map] at hw
    obtain ⟨q, hq, rfl⟩ := list_get hw
    obtain ⟨hi, _, ed, hlen⟩ := drop_back hq
    have hbd := hb (p.drop (p.length - i)) (fun x hx => hp x (List.mem_of_mem_drop hx))
    rw [hlen] at hbd
    have hle : (i + 1) * (n + m + 1) ≤ p.length * (n + m + 1) := Nat.mul_le_mul_right _ hi
    have hle2 : (p.length + 1) * (n + m + 1) = p.length * (n + m + 1) + (n + m + 1) := by rw [Nat.add_mul, Nat.one_mul]
    have hle3 : (i + 1) * (n + m + 1) = i * (n + m + 1) + (n + m + 1) := by rw [Nat.add_mul, Nat.one_mul]
    refine AgA.name 3 rfl (.inl rfl) ?_
    refine ExA.cons' <| StA.assignN 2 rfl (.inl rfl) <| EvA.bin <| EvA.bin <| EvA.name 2 rfl rfl <| EvA.name 1 rfl rfl <| OpA.mul (mulOk hbd hr (by first | with_reducible assumption | with_reducible exact Nat.le_trans ‹_ ≤ 400› (by decide) | with_reducible exact Nat.le_trans ‹_ ≤ 100› (by decide) | with_reducible exact Int.natCast_nonneg _ | with_reducible exact n62 _ | with_reducible exact l62 ‹_ ≤ 400› (by decide) | with_reducible exact l62 ‹_ ≤ 100› (by decide) | omega)) <| EvA.name 3 rfl rfl <| OpA.add <| ExA.nil ⟨some (.val (.int q)), ?_, rfl⟩
    rw [ed]; rfl
  · rintro σ μ ⟨o, rfl, rfl⟩
    refine ⟨rfl, ?_⟩
    refine ExA.cons' <| StA.ret <| EvA.name 2 rfl rfl (.inl ?_)
    simp
end Mine
end
section
open PySem PySem.W PySem.Calls PyProof.Rows
set_option linter.unusedVariables false
namespace Mine
set_option maxRecDepth 100000

noncomputable def dCopied : { x : DefText // nthDef 39 = some x } := ⟨_, rfl⟩
noncomputable def dSwap : { x : DefText // nthDef 40 = some x } := ⟨_, rfl⟩
noncomputable def dTake : { x : DefText // nthDef 41 = some x } := ⟨_, rfl⟩

noncomputable def encRows (a : M) : List PyData := a.map encP
noncomputable def BdM (n : Nat) (a : M) : Prop := ∀ r ∈ a, BdP n r

theorem copied_spec {C : Cx} (H : Facts C) {a : M} (ha : a.length ≤ 400) (hr : ∀ r ∈ a, r.length ≤ 400) : FnSpec C 1 (Str.ofString "copied") [encM a] (.fresh (encRows a)) := by
  refine FnSpec.intro (H.defs 39 _ dCopied.2) (by decide +kernel) (by decide +kernel) (by rfl) ?_ ?_
  · exact fun pm cd doc vs h => len1 h rfl fun _ => rfl
  intro env ok
  show ExA C _ dCopied.1.body [some (.val (encM a))] [] _
  refine ExA.cons' <| StA.ret <| EvA.compM 1 rfl (by decide +kernel) (by rfl) <| ItA.list <| EvA.name 0 rfl rfl ⟨_, rfl, [none, none, none], a.map encP, trivial, by simp, by simp, by simp [sizeLine]; omega, ?_, ?_⟩
  · intro env' ok' i w hw
    rw [List.map_map] at hw
    obtain ⟨x, hx, rfl⟩ := list_get hw
    have := hr x (List.mem_of_getElem? hx)
    exact JdW.frz <| EvA.callT 2 rfl H.b_list.1 H.b_list.2 <| ArA.cons <| EvA.name 1 rfl rfl <| ArA.nil <| ClA.list (.inl rfl) (by first | with_reducible exact lzs ‹_ ≤ 400› (by decide) | with_reducible exact lzs ‹_ ≤ 100› (by decide) | with_reducible exact lzs ‹_ ≤ 50› (by decide) | (simp [sizeLine]; omega)) fun l => ⟨l, _, [], _, rfl, rfl, ⟨_, rfl, rfl, rfl, by simp [hx]; rfl⟩⟩
  · intro l
    exact ⟨l, rfl, .head _⟩

noncomputable def swapR (a : M) (i j : Nat) : M := (a.set i (a.getD j [])).set j (a.getD i [])
theorem getM {a : M} {j : Nat} (h : j < a.length) : (encRows a)[j]? = some (encP (a.getD j [])) := by
  simp [encRows, List.getD_eq_getElem?_getD, h]
theorem encRows_set (a : M) (j : Nat) (r : P) : (encRows a).set j (encP r) = encRows (a.set j r) := by simp [encRows, List.map_set]
theorem encRows_length (a : M) : (encRows a).length = a.length := by simp [encRows]

theorem swap_spec {C : Cx} (H : Facts C) {a : M} {i j : Nat} (ha : a.length ≤ 400) (hi : i < a.length) (hj : j < a.length) : FnSpecR C 1 (Str.ofString "swap_rows") (encRows a) [.int i, .int j] (encRows (swapR a i j)) .none := by
  refine FnSpecR.intro (H.defs 40 _ dSwap.2) (by decide +kernel) (by decide +kernel) (by rfl) ?_ ?_
  · exact fun pm cd doc vs h => len3 h rfl fun _ _ _ => rfl
  intro env ok l
  show ExA C _ dSwap.1.body [some (.adr l), some (.val (.int i)), some (.val (.int j))] [(l, encRows a)] _
  have hn : ((encRows a).length : Int) < 2 ^ 62 := by rw [encRows_length]; omega
  refine ExA.cons' <| StA.assignT (EvA.tuple <| ArA.cons <| EvA.sub <| EvA.name 0 rfl rfl <| EvA.name 2 rfl rfl <| SubA.at j (.inr ⟨l, rfl, .head _⟩) rfl (getM hj) (by rw [encRows_length]; omega) <| ArA.cons <| EvA.sub <| EvA.name 0 rfl rfl <| EvA.name 1 rfl rfl <| SubA.at i (.inr ⟨l, rfl, .head _⟩) rfl (getM hi) (by rw [encRows_length]; omega) <| ArA.nil ⟨_, rfl, by simp [sizeLine], ?_⟩) (by rfl) swapped_sub
  refine AgA.tup rfl <| AgA.sub <| EvA.name 0 rfl rfl <| EvA.name 1 rfl rfl ⟨l, [], [], _, _, i, rfl, rfl, rfl, by omega, hn, by rw [encRows_length]; exact seqIndex_nat hi, ?_⟩
  rw [encRows_set]
  refine AgA.sub <| EvA.name 0 rfl rfl <| EvA.name 2 rfl rfl ⟨l, [], [], _, _, j, rfl, rfl, rfl, by omega, by rw [encRows_length] at *; simpa using hn, by rw [encRows_length]; exact seqIndex_nat (by simpa using hj), ?_⟩
  rw [encRows_set]
  exact ExA.nil ⟨.head _, .inr ⟨rfl, rfl⟩⟩

noncomputable def takeOff (a : M) (row source : Nat) (number : Rat) : M :=
  a.set row ((List.range (a.getD row []).length).map fun i => (a.getD row []).getD i 0 - number * (a.getD source []).getD i 0)

theorem take_spec {C : Cx} (H : Facts C) {a : M} {i j : Nat} {q : Rat} {n m k : Nat} (ha : a.length ≤ 400) (hi : i < a.length) (hj : j < a.length) (hl : (a.getD j []).length = (a.getD i []).length) (h4 : (a.getD i []).length ≤ 400)
    (h1 : BdP n (a.getD i [])) (h2 : BdP m (a.getD j [])) (h3 : Bd k q) (n1 : 1 ≤ n) (m1 : 1 ≤ m) (hL : n + m + k ≤ Lim) :
    FnSpecR C 4 (Str.ofString "take_off") (encRows a) [.int i, .int j, encQ q] (encRows (takeOff a i j q)) .none := by
  refine FnSpecR.intro (H.defs 41 _ dTake.2) (by decide +kernel) (by decide +kernel) (by rfl) ?_ ?_
  · exact fun pm cd doc vs h => len4 h rfl fun _ _ _ _ => rfl
  intro env ok l
  show ExA C _ dTake.1.body [some (.adr l), some (.val (.int i)), some (.val (.int j)), some (.val (encQ q)), none] [(l, encRows a)] _
  have hn : ((encRows a).length : Int) < 2 ^ 62 := by rw [encRows_length]; omega
  refine ExA.cons' <| StA.assignS <| JdW.frz <| EvA.comp (by decide +kernel) (by rfl) <| ItA.enum 4 rfl H.b_enum.1 H.b_enum.2 <| EvA.sub <| EvA.name 0 rfl rfl <| EvA.name 1 rfl rfl <| SubA.at i (.inr ⟨l, rfl, .head _⟩) rfl (getM hi) (by rw [encRows_length]; omega) ⟨_, rfl, ?_⟩
  refine ⟨[none, none, none, none, none, some (.adr l), some (.val (encQ q)), some (.val (.int j))], ((List.range (a.getD i []).length).map fun t => some (encQ ((a.getD i []).getD t 0 - q * (a.getD j []).getD t 0))), ⟨⟨rfl, 0, rfl, rfl⟩, ⟨rfl, 3, rfl, rfl⟩, ⟨rfl, 2, rfl, rfl⟩, trivial⟩, by simp [enumW], by rw [List.length_map, List.length_range]; exact Nat.le_trans h4 (by decide), ?_, ?_⟩
  · intro env' ok' t w hw
    obtain ⟨d, hd, rfl⟩ := enumW_get hw
    obtain ⟨r, hr, rfl⟩ := encP_get hd
    have ht := (List.getElem?_eq_some_iff.mp hr).1
    have eg : ∀ p : P, p.getD t 0 = p[t]?.getD 0 := fun p => List.getD_eq_getElem?_getD
    have er : (a.getD i []).getD t 0 = r := by rw [eg, hr]; rfl
    have hb1 := h1 r (List.mem_of_getElem? hr)
    have hs : (a.getD j [])[t]? = some ((a.getD j []).getD t 0) := by
      rw [eg, List.getElem?_eq_getElem (by rw [hl]; exact ht)]; rfl
    have hb2 := h2 _ (List.mem_of_getElem? hs)
    refine AgA.tup rfl <| AgA.name 1 rfl (.inl rfl) <| AgA.name 2 rfl (.inl rfl) <| TsA.nil ?_
    refine EvA.call 3 rfl (H.defs 9 _ dRsub.2).at <| ArA.cons <| EvA.name 2 rfl rfl <| ArA.cons <| EvA.call 4 rfl (H.defs 10 _ dRmul.2).at <| ArA.cons <| EvA.name 6 rfl rfl <| ArA.cons <| EvA.sub <| EvA.sub <| EvA.name 5 rfl rfl <| EvA.name 7 rfl rfl <| SubA.at j (.inr ⟨l, rfl, .head _⟩) rfl (getM hj) (by rw [encRows_length]; omega) <| EvA.name 1 rfl rfl <|
      SubA.at t (.inl rfl) rfl (getQ hs) (by first | with_reducible exact lz ‹_ ≤ 400› (by decide) | with_reducible exact lz ‹_ ≤ 100› (by decide) | with_reducible exact lz ‹_ ≤ 50› (by decide) | with_reducible exact lz62 ‹_ ≤ 400› (by decide) | with_reducible exact lz62 ‹_ ≤ 100› (by decide) | with_reducible exact lz62 ‹_ ≤ 50› (by decide) | (rw [List.length_map]; omega)) <| ArA.nil ⟨_, _, rfl, rmul_spec H h3 hb2 (by first | with_reducible assumption | with_reducible exact Nat.le_trans ‹_ ≤ 400› (by decide) | with_reducible exact Nat.le_trans ‹_ ≤ 100› (by decide) | with_reducible exact Int.natCast_nonneg _ | with_reducible exact n62 _ | with_reducible exact l62 ‹_ ≤ 400› (by decide) | with_reducible exact l62 ‹_ ≤ 100› (by decide) | omega), ArA.nil ⟨_, _, rfl, rsub_spec H hb1 (h3.mul hb2) (by first | with_reducible assumption | with_reducible exact Nat.le_trans ‹_ ≤ 400› (by decide) | with_reducible exact Nat.le_trans ‹_ ≤ 100› (by decide) | with_reducible exact Int.natCast_nonneg _ | with_reducible exact n62 _ | with_reducible exact l62 ‹_ ≤ 400› (by decide) | with_reducible exact l62 ‹_ ≤ 100› (by decide) | omega), ⟨_, rfl, rfl, ?_, ?_⟩⟩⟩
    · exact ((Sub.refl _).set (by intro w h; cases h)).set (by intro w h; cases h)
    · rw [List.getElem?_map, List.getElem?_range ht]
      simp only [Option.map_some, er]
  · intro l2
    refine ⟨l2, _, [], _, rfl, rfl, _, rfl, ?_⟩
    refine EvA.name 0 rfl rfl <| EvA.name 1 rfl rfl ⟨l, [], [], _, _, i, rfl, rfl, rfl, by omega, hn, by rw [encRows_length]; exact seqIndex_nat hi, ?_⟩
    refine ExA.nil ⟨?_, .inr ⟨rfl, rfl⟩⟩
    have e : (List.filterMap id ((List.range (a.getD i []).length).map fun t => some (encQ ((a.getD i []).getD t 0 - q * (a.getD j []).getD t 0)))) = ((List.range (a.getD i []).length).map fun t => (a.getD i []).getD t 0 - q * (a.getD j []).getD t 0).map encQ := by
      rw [List.filterMap_map, List.map_map]
      simp
    rw [e]
    show _ ∈ [(l, (encRows a).set i (encP _))]
    rw [encRows_set]
    exact .head _
end Mine
end
section
set_option linter.unusedVariables false
namespace Mine

noncomputable def at2 (a : M) (i j : Nat) : Rat := (a.getD i []).getD j 0
noncomputable def spotsOf (f : M) (row c : Nat) : List Nat := ((List.range (f.length - row)).map (row + ·)).filter fun i => decide (at2 f i c ≠ 0)
noncomputable def offLoop (row c : Nat) (f : M) (o : Nat) : M := if o ≠ row ∧ at2 f o c ≠ 0 then takeOff f o row (at2 f o c) else f
noncomputable def unitRow (f1 : M) (row c : Nat) : M := f1.set row ((f1.getD row []).map fun x => x / at2 f1 row c)
noncomputable def colStep (st : M × List Nat) (c : Nat) : M × List Nat :=
  match spotsOf st.1 st.2.length c with
  | [] => st
  | s :: _ => ((List.range st.1.length).foldl (offLoop st.2.length c) (unitRow (swapR st.1 st.2.length s) st.2.length c), st.2 ++ [c])
noncomputable def echAt (a : M) (c : Nat) : M × List Nat := (List.range c).foldl colStep (a, [])
theorem echAt_succ (a : M) (c : Nat) : echAt a (c + 1) = colStep (echAt a c) c := by simp [echAt, List.range_succ]

theorem getD_set {f : M} {i j : Nat} {x : P} (hi : i < f.length) : (f.set i x).getD j [] = if j = i then x else f.getD j [] := by
  simp only [List.getD_eq_getElem?_getD, List.getElem?_set]
  by_cases h : i = j
  · subst h; simp [hi]
  · simp [h, Ne.symm h]
noncomputable def offRow (f : M) (row c j : Nat) : P :=
  if j ≠ row ∧ at2 f j c ≠ 0 then (List.range (f.getD j []).length).map fun i => at2 f j i - at2 f j c * at2 f row i else f.getD j []
noncomputable def offAt (f : M) (row c o : Nat) : M := (List.range o).foldl (offLoop row c) f
theorem offAt_succ (f : M) (row c o : Nat) : offAt f row c (o + 1) = offLoop row c (offAt f row c o) o := by simp [offAt, List.range_succ]
theorem offRow_row (f : M) (row c : Nat) : offRow f row c row = f.getD row [] := by simp [offRow]
theorem offAt_facts (f : M) (row c : Nat) : ∀ o, o ≤ f.length → (offAt f row c o).length = f.length ∧ ∀ j, (offAt f row c o).getD j [] = if j < o then offRow f row c j else f.getD j []
  | 0, _ => ⟨rfl, fun j => by simp [offAt]⟩
  | o + 1, h => by
    obtain ⟨h1, h2⟩ := offAt_facts f row c o (by omega)
    have e1 : (offAt f row c o).getD o [] = f.getD o [] := by rw [h2]; simp
    have e2 : (offAt f row c o).getD row [] = f.getD row [] := by
      rw [h2]; split
      · exact offRow_row f row c
      · rfl
    have e3 : offAt f row c (o + 1) = (offAt f row c o).set o (offRow f row c o) := by
      rw [offAt_succ]
      unfold offLoop
      have ea : at2 (offAt f row c o) o c = at2 f o c := by unfold at2; rw [e1]
      rw [ea]
      by_cases hc : o ≠ row ∧ at2 f o c ≠ 0
      · rw [if_pos hc]
        unfold takeOff
        rw [e1, e2]
        congr 1
        unfold offRow
        rw [if_pos hc]; rfl
      · rw [if_neg hc]
        unfold offRow
        rw [if_neg hc, ← e1]
        have ho : o < (offAt f row c o).length := by omega
        rw [List.getD_eq_getElem?_getD, List.getElem?_eq_getElem ho]
        simp
    rw [e3]
    refine ⟨by rw [List.length_set]; exact h1, fun j => ?_⟩
    rw [getD_set (by omega), h2]
    by_cases hj : j = o
    · subst hj; simp
    · rw [if_neg hj]
      by_cases hlt : j < o
      · rw [if_pos hlt, if_pos (by omega)]
      · rw [if_neg hlt, if_neg (by omega)]

/-- all rows of one length -/
noncomputable def Rows (r n : Nat) (f : M) : Prop := f.length = r ∧ ∀ i, i < r → (f.getD i []).length = n
noncomputable def BdR (k : Nat) (f : M) : Prop := ∀ i, BdP k (f.getD i [])
theorem BdR.mono {k k' : Nat} {f : M} (h : BdR k f) (hk : k ≤ k') : BdR k' f := fun i => (h i).mono hk
theorem swapR_getD {f : M} {i j t : Nat} (hi : i < f.length) (hj : j < f.length) : (swapR f i j).getD t [] = if t = j then f.getD i [] else if t = i then f.getD j [] else f.getD t [] := by
  unfold swapR
  rw [getD_set (by simpa using hj), getD_set hi]
theorem swapR_length (f : M) (i j : Nat) : (swapR f i j).length = f.length := by simp [swapR]
theorem spots_mem {f : M} {row c s : Nat} {r : List Nat} (h : spotsOf f row c = s :: r) : row ≤ s ∧ s < f.length ∧ at2 f s c ≠ 0 := by
  have hm : s ∈ spotsOf f row c := by rw [h]; exact .head _
  unfold spotsOf at hm
  rw [List.mem_filter, List.mem_map] at hm
  obtain ⟨⟨i, hi, e⟩, h2⟩ := hm
  rw [List.mem_range] at hi
  exact ⟨by omega, by omega, by simpa using h2⟩
theorem spots_nil {f : M} {row c : Nat} (h : spotsOf f row c = []) : ∀ i, row ≤ i → i < f.length → at2 f i c = 0 := fun i h1 h2 => by
  unfold spotsOf at h
  rw [List.filter_eq_nil_iff] at h
  have := h i (List.mem_map.mpr ⟨i - row, by rw [List.mem_range]; omega, by omega⟩)
  simpa using this

noncomputable def eB : Nat → Nat → Nat
  | 0, k => k
  | c + 1, k => 4 * eB c k + 1
theorem eB_pos {k : Nat} (h : 1 ≤ k) : ∀ c, 1 ≤ eB c k
  | 0 => h
  | c + 1 => by simp only [eB]; omega
theorem eB_mono (k : Nat) {c c' : Nat} (h : c ≤ c') : eB c k ≤ eB c' k := by
  induction h with
  | refl => exact Nat.le_refl _
  | step _ ih => simp only [eB]; omega

theorem Bd.at {k : Nat} {f : M} (h : BdR k f) (hk : 1 ≤ k) (i j : Nat) : Bd k (at2 f i j) := (h i).getD hk j
/-- one column -/
theorem col_facts {f : M} {p : List Nat} {c r n k : Nat} (hR : Rows r n f) (hB : BdR k f) (hk : 1 ≤ k) {s : Nat} {l : List Nat} (hs : spotsOf f p.length c = s :: l) :
    p.length < r ∧ s < r ∧ Rows r n (swapR f p.length s) ∧ BdR k (swapR f p.length s) ∧ at2 (swapR f p.length s) p.length c = at2 f s c ∧ at2 f s c ≠ 0 ∧
    Rows r n (unitRow (swapR f p.length s) p.length c) ∧ (∀ i, i ≠ p.length → (unitRow (swapR f p.length s) p.length c).getD i [] = (swapR f p.length s).getD i []) ∧
    BdP (2 * k) ((unitRow (swapR f p.length s) p.length c).getD p.length []) ∧ (unitRow (swapR f p.length s) p.length c).getD p.length [] = ((swapR f p.length s).getD p.length []).map fun x => x / at2 f s c := by
  obtain ⟨h1, h2, h3⟩ := spots_mem hs
  obtain ⟨hl, hrows⟩ := hR
  have hp : p.length < f.length := by omega
  have hS : ∀ t, (swapR f p.length s).getD t [] = if t = s then f.getD p.length [] else if t = p.length then f.getD s [] else f.getD t [] := fun t => swapR_getD hp h2
  have eP : (swapR f p.length s).getD p.length [] = f.getD s [] := by
    rw [hS]; split
    · rename_i e; rw [← e]
    · simp
  have e4 : at2 (swapR f p.length s) p.length c = at2 f s c := by unfold at2; rw [eP]
  have R1 : Rows r n (swapR f p.length s) := ⟨by rw [swapR_length]; exact hl, fun i hi => by
    rw [hS]; split
    · exact hrows _ (by omega)
    · split
      · exact hrows _ (by omega)
      · exact hrows _ hi⟩
  have B1 : BdR k (swapR f p.length s) := fun i => by
    rw [hS]; split
    · exact hB _
    · split
      · exact hB _
      · exact hB _
  have hU : ∀ i, (unitRow (swapR f p.length s) p.length c).getD i [] = if i = p.length then ((swapR f p.length s).getD p.length []).map fun x => x / at2 (swapR f p.length s) p.length c else (swapR f p.length s).getD i [] := fun i => by
    unfold unitRow; rw [getD_set (by rw [swapR_length]; exact hp)]
  refine ⟨by omega, by omega, R1, B1, e4, h3, ⟨by unfold unitRow; rw [List.length_set]; exact R1.1, fun i hi => ?_⟩, fun i hi => by rw [hU, if_neg hi], ?_, by rw [hU, if_pos rfl, e4]⟩
  · rw [hU]; split
    · rw [List.length_map]; exact R1.2 _ (by omega)
    · exact R1.2 _ hi
  · rw [hU, if_pos rfl, e4]
    intro q hq
    obtain ⟨x, hx, rfl⟩ := List.mem_map.mp hq
    exact ((B1 p.length x hx).div (Bd.at hB hk s c) h3).mono (by omega)
theorem off_facts {f : M} {row c r n k : Nat} (hR : Rows r n f) (hk : 1 ≤ k) (hB : ∀ i, i ≠ row → BdP k (f.getD i [])) (hB2 : BdP (2 * k) (f.getD row [])) :
    Rows r n (offAt f row c r) ∧ BdR (4 * k + 1) (offAt f row c r) := by
  obtain ⟨h1, h2⟩ := offAt_facts f row c r (by rw [hR.1]; exact Nat.le_refl _)
  refine ⟨⟨by rw [h1]; exact hR.1, fun i hi => ?_⟩, fun i => ?_⟩
  · rw [h2, if_pos hi]
    unfold offRow
    split
    · simp only [List.length_map, List.length_range]; exact hR.2 i hi
    · exact hR.2 i hi
  · rw [h2]
    have low : BdP (4 * k + 1) (f.getD i []) := by
      by_cases e : i = row
      · rw [e]; exact hB2.mono (by omega)
      · exact (hB i e).mono (by omega)
    split
    · unfold offRow
      split
      · rename_i hc
        intro q hq
        obtain ⟨t, ht, rfl⟩ := List.mem_map.mp hq
        exact (((hB i hc.1).getD hk t).sub (((hB i hc.1).getD hk c).mul (hB2.getD (by omega) t))).mono (by omega)
      · exact low
    · exact low
theorem colStep_facts {st : M × List Nat} {c r n k : Nat} (hR : Rows r n st.1) (hB : BdR k st.1) (hk : 1 ≤ k) (hp : st.2.length ≤ c) :
    Rows r n (colStep st c).1 ∧ BdR (4 * k + 1) (colStep st c).1 ∧ (colStep st c).2.length ≤ c + 1 := by
  unfold colStep
  cases hs : spotsOf st.1 st.2.length c with
  | nil => exact ⟨hR, hB.mono (by omega), by simp; omega⟩
  | cons s l =>
    obtain ⟨g1, g2, g3, g4, g5, g6, g7, g8, g9, g10⟩ := col_facts hR hB hk hs
    have := off_facts (c := c) g7 hk (fun i hi => by rw [g8 i hi]; exact g4 i) g9
    refine ⟨?_, ?_, by simp; omega⟩
    · show Rows r n (offAt _ _ _ st.1.length); rw [hR.1]; exact this.1
    · show BdR _ (offAt _ _ _ st.1.length); rw [hR.1]; exact this.2
theorem echAt_facts {a : M} {r n k : Nat} (hR : Rows r n a) (hB : BdR k a) (hk : 1 ≤ k) : ∀ c, Rows r n (echAt a c).1 ∧ BdR (eB c k) (echAt a c).1 ∧ (echAt a c).2.length ≤ c
  | 0 => ⟨hR, hB, Nat.le_refl _⟩
  | c + 1 => by
    obtain ⟨h1, h2, h3⟩ := echAt_facts hR hB hk c
    rw [echAt_succ]
    exact colStep_facts h1 h2 (eB_pos hk c) h3
end Mine
end
section
open PySem PySem.W PySem.Calls PyProof.Rows
set_option linter.unusedVariables false
namespace Mine
set_option maxRecDepth 100000

noncomputable def dEch : { x : DefText // nthDef 42 = some x } := ⟨_, rfl⟩
noncomputable def dNull : { x : DefText // nthDef 44 = some x } := ⟨_, rfl⟩

noncomputable def encN (p : List Nat) : List PyData := p.map fun (i : Nat) => .int i
theorem encN_get {a : List Nat} {i : Nat} {d : PyData} (h : (encN a)[i]? = some d) : ∃ q, a[i]? = some q ∧ d = .int (q : Int) := list_get h
theorem shape1 {C : Cx} (H : Facts C) {a : M} {r n : Nat} (hR : Rows r n a) (hr : 1 ≤ r) (h1 : r ≤ 400) (h2 : n ≤ 400) : FnSpec C 1 (Str.ofString "shape") [encM a] (.val (.tuple [.int r, .int n])) := by
  cases a with
  | nil => have := hR.1; simp at this; omega
  | cons x t =>
    have e1 := hR.1
    have e2 := hR.2 0 hr
    have := shape_spec H (r := x) (a := t) (by simp at e1; omega) (by simp at e2; omega)
    have e3 : ((t.length : Int) + 1) = (r : Int) := by rw [← e1]; simp
    have e4 : x.length = n := by simpa using e2
    rw [e3, e4] at this
    exact this

theorem eqv_nat (a b : Nat) : PyData.eqv (.int (a : Int)) (.int (b : Int)) = decide (a = b) := by
  rw [eqv_int]
  by_cases h : a = b
  · simp [h]
  · rw [decide_eq_false h, decide_eq_false (by first | with_reducible assumption | with_reducible exact Nat.le_trans ‹_ ≤ 400› (by decide) | with_reducible exact Nat.le_trans ‹_ ≤ 100› (by decide) | with_reducible exact Int.natCast_nonneg _ | with_reducible exact n62 _ | with_reducible exact l62 ‹_ ≤ 400› (by decide) | with_reducible exact l62 ‹_ ≤ 100› (by decide) | omega)]

theorem spots_enc (f : M) (row c : Nat) : (List.filterMap id ((List.range (f.length - row)).map fun i => if at2 f (row + i) c ≠ 0 then some (PyData.int ((row + i : Nat) : Int)) else none)) = encN (spotsOf f row c) := by
  unfold spotsOf encN
  rw [List.filter_map, List.filterMap_map]
  generalize List.range (f.length - row) = l
  induction l with
  | nil => rfl
  | cons x t ih =>
    simp only [List.filterMap_cons, Function.comp, id_eq]
    by_cases hx : at2 f (row + x) c ≠ 0
    · simp only [if_pos hx, List.filter_cons, Function.comp, decide_eq_true hx, if_true, List.map_cons]
      rw [← ih]
    · simp only [if_neg hx, List.filter_cons, Function.comp, decide_eq_false hx, Bool.false_eq_true, if_false]
      rw [← ih]

theorem getRow {f : M} {i j : Nat} {n : Nat} (h : (f.getD i []).length = n) (hj : j < n) : (f.getD i [])[j]? = some (at2 f i j) := by
  unfold at2
  have e : ∀ p : P, p.getD j 0 = p[j]?.getD 0 := fun p => List.getD_eq_getElem?_getD
  rw [e, List.getElem?_eq_getElem (by first | with_reducible assumption | with_reducible exact Nat.le_trans ‹_ ≤ 400› (by decide) | with_reducible exact Nat.le_trans ‹_ ≤ 100› (by decide) | with_reducible exact Int.natCast_nonneg _ | with_reducible exact n62 _ | with_reducible exact l62 ‹_ ≤ 400› (by decide) | with_reducible exact l62 ‹_ ≤ 100› (by decide) | omega)]; rfl

inductive JEch (a : M) (lf lp : Addr) (c : Nat) (σ : Sg) (μ : Mu) : Prop
  | mk (o3 : Option WV) (o4 : Option WV) (o5 : Option WV) (o6 : Option WV) (o7 : Option WV) (f : M) (p : List Nat) (h1 : echAt a c = (f, p)) (h2 : σ = [some (.val (encM a)), some (.adr lf), some (.adr lp), o3, o4, o5, o6, o7, none, none, none, none, none, none, none]) (h3 : μ = [(lp, encN p), (lf, encRows f)])
inductive JOff (a : M) (lf lp : Addr) (c' : Nat) (p : List Nat) (s : Nat) (t : List Nat) (ld : Rat) (f2 : M) (o : Nat) (σ : Sg) (μ : Mu) : Prop
  | mk (o7 : Option WV) (h1 : σ = [some (.val (encM a)), some (.adr lf), some (.adr lp), some (.val (.int c')), some (.val (.int p.length)), some (.val (.list (encN (s :: t)))), some (.val (encQ ld)), o7, none, none, none, none, none, none, none]) (h2 : μ = [(lp, encN p), (lf, encRows (offAt f2 p.length c' o))])
theorem echelon_spec {C : Cx} (H : Facts C) {a : M} {r n k : Nat} (hR : Rows r n a) (hB : BdR k a) (hk : 1 ≤ k) (h1 : 1 ≤ r) (h2 : r ≤ 400) (h3 : n ≤ 400) (hL : eB n k ≤ Lim) :
    FnSpec C 5 (Str.ofString "echelon") [encM a] (.val (.tuple [encM (echAt a n).1, .list (encN (echAt a n).2)])) := by
  refine FnSpec.intro (H.defs 42 _ dEch.2) (by decide +kernel) (by decide +kernel) (by rfl) ?_ ?_
  · exact fun pm cd doc vs h => len1 h rfl fun _ => rfl
  intro env ok
  show ExA C _ dEch.1.body [some (.val (encM a)), none, none, none, none, none, none, none, none, none, none, none, none, none, none] [] _
  have hra : ∀ x ∈ a, x.length ≤ 400 := fun x hx => by
    obtain ⟨i, hi⟩ := List.mem_iff_getElem?.mp hx
    have hlt := (List.getElem?_eq_some_iff.mp hi).1
    have := hR.2 i (by rw [← hR.1]; exact hlt)
    rw [List.getD_eq_getElem?_getD, hi] at this
    simp at this; omega
  refine ExA.cons <| StA.assignT (EvA.two <| ArA.cons <| EvA.call 8 rfl (H.defs 39 _ dCopied.2).at <| ArA.cons <| EvA.name 0 rfl rfl <| ArA.nil ⟨_, .fresh _, rfl, (copied_spec H (by rw [hR.1]; exact h2) hra).le (show 1 ≤ 4 by decide), fun lf => ArA.cons <| EvA.list <| ArA.nil ⟨_, rfl, by simp, fun lp => ArA.nil ⟨_, _, rfl, AgA.tup rfl <| AgA.name 1 rfl (.inr rfl) <| AgA.name 2 rfl (.inl rfl) ⟨rfl, ?_⟩⟩⟩⟩) (by rfl) (swapped_cell (i := 1) rfl rfl)
  refine ExA.cons <| StA.for <| ItA.range1 9 rfl H.b_range.1 H.b_range.2 <| EvA.sub <| EvA.call 10 rfl (H.defs 38 _ dShape.2).at <| ArA.cons <| EvA.name 0 rfl rfl <| ArA.nil ⟨_, _, rfl, (shape1 H hR h1 h2 h3).le (show 1 ≤ 4 by decide), EvA.cint <| SubA.tupN 1 rfl (by simp) ⟨_, rfl, by omega, by omega, ?_⟩⟩
  refine ⟨(JEch a lf lp), ⟨none, none, none, none, none, _, _, rfl, rfl, rfl⟩, ?_, ?_⟩
  · rintro c w σ μ hw ⟨o3, o4, o5, o6, o7, f, p, hst, rfl, rfl⟩
    obtain ⟨c', ec, hcn, rfl⟩ := rng_get hw
    subst ec
    replace hcn : c' < n := hcn
    obtain ⟨R1, B1, P1⟩ := echAt_facts hR hB hk c'
    have hk1 := eB_pos hk c'
    have hLc : eB (c' + 1) k ≤ Lim := Nat.le_trans (eB_mono k (by first | with_reducible assumption | with_reducible exact Nat.le_trans ‹_ ≤ 400› (by decide) | with_reducible exact Nat.le_trans ‹_ ≤ 100› (by decide) | with_reducible exact Int.natCast_nonneg _ | with_reducible exact n62 _ | with_reducible exact l62 ‹_ ≤ 400› (by decide) | with_reducible exact l62 ‹_ ≤ 100› (by decide) | omega)) hL
    have hstep := echAt_succ a c'
    rw [hst] at R1 B1 P1 hstep
    dsimp only at R1 B1 P1
    generalize hke : eB c' k = kk at *
    have hL4 : 4 * kk + 1 ≤ Lim := by rw [← hke]; exact hLc
    refine AgA.name 3 rfl (.inr rfl) ?_
    refine ExA.cons' <| StA.assignN 4 rfl (.inl rfl) <| EvA.callB 11 rfl H.b_len.1 H.b_len.2 <| ArA.cons <| EvA.name 2 rfl rfl <| ArA.nil <| ClA.len_list (.inr ⟨lp, rfl, .head _⟩) (by simp [encN]; omega) ?_
    have elen : ((encN p).length : Int) = ((p.length : Nat) : Int) := by simp [encN]
    rw [elen]
    have hfl : f.length = r := R1.1
    refine ExA.cons' <| StA.assignC 5 rfl (.inl rfl) (by decide +kernel) (by rfl) (swaps_comp (j := 5) rfl rfl (by decide +kernel)) <| ItA.range2 9 rfl H.b_range.1 H.b_range.2 <| EvA.name 4 rfl rfl <| EvA.callB 11 rfl H.b_len.1 H.b_len.2 <| ArA.cons <| EvA.name 1 rfl rfl <| ArA.nil <| ClA.len_list (.inr ⟨lf, rfl, .tail _ (.head _)⟩) (by rw [encRows_length]; omega) ⟨_, _, rfl, rfl, by omega, by omega, by rw [encRows_length]; omega, by rw [encRows_length]; omega, ?_⟩
    have erng : (((encRows f).length : Int) - (p.length : Int)).toNat = f.length - p.length := tn_sub (by rw [encRows_length]) rfl
    rw [erng]
    refine ⟨[none, none, none, some (.val (.int c')), some (.adr lf)], (List.range (f.length - p.length)).map fun i => if at2 f (p.length + i) c' ≠ 0 then some (PyData.int ((p.length + i : Nat) : Int)) else none, ⟨⟨rfl, 3, rfl, rfl⟩, ⟨rfl, 1, rfl, rfl⟩, trivial⟩, by simp, by rw [List.length_map, List.length_range]; exact Nat.le_trans (show f.length - p.length ≤ 400 by omega) (by decide), ?_, ?_⟩
    · intro env' ok' i w hw
      obtain ⟨i', ei, hin, rfl⟩ := rng_get hw
      subst ei
      replace hin : i' < f.length - p.length := hin
      have ek : ((p.length : Int) + (i' : Int)) = ((p.length + i' : Nat) : Int) := by omega
      have hrow := R1.2 (p.length + i') (by first | with_reducible assumption | with_reducible exact Nat.le_trans ‹_ ≤ 400› (by decide) | with_reducible exact Nat.le_trans ‹_ ≤ 100› (by decide) | with_reducible exact Int.natCast_nonneg _ | with_reducible exact n62 _ | with_reducible exact l62 ‹_ ≤ 400› (by decide) | with_reducible exact l62 ‹_ ≤ 100› (by decide) | omega)
      rw [ek]
      refine AgA.name 1 rfl (.inl rfl) <| TsA.one <| TrA.cmp <| EvA.sub <| EvA.sub <| EvA.name 4 rfl rfl <| EvA.name 1 rfl rfl <| SubA.at (p.length + i') (.inr ⟨lf, rfl, .tail _ (.head _)⟩) rfl (getM (by first | with_reducible assumption | with_reducible exact Nat.le_trans ‹_ ≤ 400› (by decide) | with_reducible exact Nat.le_trans ‹_ ≤ 100› (by decide) | with_reducible exact Int.natCast_nonneg _ | with_reducible exact n62 _ | with_reducible exact l62 ‹_ ≤ 400› (by decide) | with_reducible exact l62 ‹_ ≤ 100› (by decide) | omega)) (by rw [encRows_length]; omega) <| EvA.name 3 rfl rfl <| SubA.at c' (.inl rfl) rfl (getQ (getRow hrow hcn)) (by first | with_reducible exact lz ‹_ ≤ 400› (by decide) | with_reducible exact lz ‹_ ≤ 100› (by decide) | with_reducible exact lz ‹_ ≤ 50› (by decide) | with_reducible exact lz62 ‹_ ≤ 400› (by decide) | with_reducible exact lz62 ‹_ ≤ 100› (by decide) | with_reducible exact lz62 ‹_ ≤ 50› (by decide) | (rw [List.length_map]; omega)) <| EvA.glob 2 rfl H.g_R0 <| OpA.ne (depth_encQ _ _) ⟨_, rfl, ?_⟩
      rw [eqv_R0]
      by_cases h0 : at2 f (p.length + i') c' = 0
      · rw [decide_eq_true h0]
        exact ⟨rfl, (Sub.refl _).set (by intro w h; cases h), by simp [hin, h0]⟩
      · rw [decide_eq_false h0]
        exact EvA.name 1 rfl rfl ⟨_, rfl, rfl, (Sub.refl _).set (by intro w h; cases h), by simp [hin, h0]⟩
    intro ls
    rw [spots_enc]
    refine JdW.frzV 5 (pre := []) rfl ?_
    have hN : ∀ (q : List Nat), (encN q).length = q.length := fun q => by simp [encN]
    have hsl : (spotsOf f p.length c').length ≤ 400 := by
      refine Nat.le_trans (List.length_filter_le _ _) ?_
      rw [List.length_map, List.length_range]; omega
    refine ExA.cons' <| StA.ite <| TrA.cmp <| EvA.callB 11 rfl H.b_len.1 H.b_len.2 <| ArA.cons <| EvA.name 5 rfl rfl <| ArA.nil <| ClA.len_list (.inl rfl) (by rw [hN]; omega) <| EvA.cint <| OpA.eq (by simp [PyData.depth]) ⟨_, rfl, ?_⟩
    rw [bool_not_eqv, hN]
    cases hsp : spotsOf f p.length c' with
    | nil =>
      rw [decide_eq_true (by simp)]
      refine ExA.cons' <| StA.cont ⟨_, _, _, _, _, f, p, ?_, rfl, rfl⟩
      rw [hstep]; unfold colStep; rw [hsp]
    | cons s t =>
      rw [hsp] at hsl
      rw [decide_eq_false (by first | with_reducible exact lz ‹_ ≤ 400› (by decide) | with_reducible exact lz ‹_ ≤ 100› (by decide) | with_reducible exact lz ‹_ ≤ 50› (by decide) | with_reducible exact lz62 ‹_ ≤ 400› (by decide) | with_reducible exact lz62 ‹_ ≤ 100› (by decide) | with_reducible exact lz62 ‹_ ≤ 50› (by decide) | (simp; omega))]
      obtain ⟨g1, g2, g3, g4, g5, g6, g7, g8, g9, g10⟩ := col_facts R1 B1 hk1 hsp
      refine ExA.nil ?_
      refine ExA.cons' <| StA.expr (EvA.callR 12 rfl (H.defs 40 _ dSwap.2).at <| ArA.cons <| EvA.name 1 rfl rfl <| ArA.cons <| EvA.name 4 rfl rfl <| ArA.cons <| EvA.sub <| EvA.name 5 rfl rfl <| EvA.cint <| SubA.at 0 (.inl rfl) rfl rfl (by rw [hN]; omega) <| ArA.nil ⟨lf, _, _, [(lp, encN p)], _, [], _, _, rfl, rfl, rfl, (swap_spec H (by first | with_reducible assumption | with_reducible exact Nat.le_trans ‹_ ≤ 400› (by decide) | with_reducible exact Nat.le_trans ‹_ ≤ 100› (by decide) | with_reducible exact Int.natCast_nonneg _ | with_reducible exact n62 _ | with_reducible exact l62 ‹_ ≤ 400› (by decide) | with_reducible exact l62 ‹_ ≤ 100› (by decide) | omega) (by first | with_reducible assumption | with_reducible exact Nat.le_trans ‹_ ≤ 400› (by decide) | with_reducible exact Nat.le_trans ‹_ ≤ 100› (by decide) | with_reducible exact Int.natCast_nonneg _ | with_reducible exact n62 _ | with_reducible exact l62 ‹_ ≤ 400› (by decide) | with_reducible exact l62 ‹_ ≤ 100› (by decide) | omega) (by first | with_reducible assumption | with_reducible exact Nat.le_trans ‹_ ≤ 400› (by decide) | with_reducible exact Nat.le_trans ‹_ ≤ 100› (by decide) | with_reducible exact Int.natCast_nonneg _ | with_reducible exact n62 _ | with_reducible exact l62 ‹_ ≤ 400› (by decide) | with_reducible exact l62 ‹_ ≤ 100› (by decide) | omega)).le (show 1 ≤ 4 by decide), ⟨rfl, ?_⟩⟩) (not_interactive _)
      have l1 : (swapR f p.length s).length = f.length := swapR_length _ _ _
      have hrow1 := g3.2 p.length g1
      refine ExA.cons' <| StA.assignN 6 rfl (.inr rfl) <| EvA.sub <| EvA.sub <| EvA.name 1 rfl rfl <| EvA.name 4 rfl rfl <| SubA.at p.length (.inr ⟨lf, rfl, .tail _ (.head _)⟩) rfl (getM (by first | with_reducible assumption | with_reducible exact Nat.le_trans ‹_ ≤ 400› (by decide) | with_reducible exact Nat.le_trans ‹_ ≤ 100› (by decide) | with_reducible exact Int.natCast_nonneg _ | with_reducible exact n62 _ | with_reducible exact l62 ‹_ ≤ 400› (by decide) | with_reducible exact l62 ‹_ ≤ 100› (by decide) | omega)) (by rw [encRows_length]; omega) <| EvA.name 3 rfl rfl <| SubA.at c' (.inl rfl) rfl (getQ (getRow hrow1 hcn)) (by first | with_reducible exact lz ‹_ ≤ 400› (by decide) | with_reducible exact lz ‹_ ≤ 100› (by decide) | with_reducible exact lz ‹_ ≤ 50› (by decide) | with_reducible exact lz62 ‹_ ≤ 400› (by decide) | with_reducible exact lz62 ‹_ ≤ 100› (by decide) | with_reducible exact lz62 ‹_ ≤ 50› (by decide) | (rw [List.length_map]; omega)) ?_
      rw [g5]
      generalize hfs : swapR f p.length s = f1 at *
      generalize hld : at2 f s c' = ld at *
      have hbl : Bd kk ld := by rw [← hld]; exact Bd.at B1 hk1 s c'
      have B1row := g4 p.length
      refine ExA.cons' <| StA.assignS <| JdW.frz <| EvA.compM 1 rfl (by decide +kernel) (by rfl) <| ItA.list <| EvA.sub <| EvA.name 1 rfl rfl <| EvA.name 4 rfl rfl <| SubA.at p.length (.inr ⟨lf, rfl, .tail _ (.head _)⟩) rfl (getM (by first | with_reducible assumption | with_reducible exact Nat.le_trans ‹_ ≤ 400› (by decide) | with_reducible exact Nat.le_trans ‹_ ≤ 100› (by decide) | with_reducible exact Int.natCast_nonneg _ | with_reducible exact n62 _ | with_reducible exact l62 ‹_ ≤ 400› (by decide) | with_reducible exact l62 ‹_ ≤ 100› (by decide) | omega)) (by rw [encRows_length]; omega) ⟨_, rfl, [none, none, none, some (.val (encQ ld))], (f1.getD p.length []).map fun x => encQ (x / ld), ⟨⟨rfl, 6, rfl, rfl⟩, trivial⟩, by simp, by simp, by rw [List.length_map]; exact Nat.le_trans (show _ ≤ 400 by omega) (by decide), ?_, ?_⟩
      · intro env' ok' i w hw
        rw [List.map_map] at hw
        obtain ⟨x, hx, rfl⟩ := list_get hw
        refine EvA.call 2 rfl (H.defs 11 _ dRdiv.2).at <| ArA.cons <| EvA.name 1 rfl rfl <| ArA.cons <| EvA.name 3 rfl rfl <| ArA.nil ⟨_, _, rfl, (rdiv_spec H (B1row x (List.mem_of_getElem? hx)) hbl (by first | with_reducible assumption | with_reducible exact Nat.le_trans ‹_ ≤ 400› (by decide) | with_reducible exact Nat.le_trans ‹_ ≤ 100› (by decide) | with_reducible exact Int.natCast_nonneg _ | with_reducible exact n62 _ | with_reducible exact l62 ‹_ ≤ 400› (by decide) | with_reducible exact l62 ‹_ ≤ 100› (by decide) | omega) g6).le (show 3 ≤ 4 by decide), ⟨_, rfl, rfl, rfl, ?_⟩⟩
        rw [List.getElem?_map, hx]; rfl
      intro l2
      refine ⟨l2, _, [], _, rfl, rfl, _, rfl, ?_⟩
      refine EvA.name 1 rfl rfl <| EvA.name 4 rfl rfl ⟨lf, [(lp, encN p)], [], _, _, p.length, rfl, rfl, rfl, by omega, by rw [encRows_length]; omega, by rw [encRows_length]; exact seqIndex_nat (by first | with_reducible assumption | with_reducible exact Nat.le_trans ‹_ ≤ 400› (by decide) | with_reducible exact Nat.le_trans ‹_ ≤ 100› (by decide) | with_reducible exact Int.natCast_nonneg _ | with_reducible exact n62 _ | with_reducible exact l62 ‹_ ≤ 400› (by decide) | with_reducible exact l62 ‹_ ≤ 100› (by decide) | omega), ?_⟩
      have eset : (encRows f1).set p.length (.list ((f1.getD p.length []).map fun x => encQ (x / ld))) = encRows (unitRow f1 p.length c') := by
        have e : PyData.list ((f1.getD p.length []).map fun x => encQ (x / ld)) = encP ((f1.getD p.length []).map fun x => x / at2 f1 p.length c') := by rw [g5]; simp [encP]
        rw [e, encRows_set]; rfl
      rw [eset]
      generalize hf2 : unitRow f1 p.length c' = f2 at *
      have l2' : f2.length = r := g7.1
      refine ExA.cons' <| StA.for <| ItA.range1 9 rfl H.b_range.1 H.b_range.2 <| EvA.callB 11 rfl H.b_len.1 H.b_len.2 <| ArA.cons <| EvA.name 1 rfl rfl <| ArA.nil <| ClA.len_list (.inr ⟨lf, rfl, .tail _ (.head _)⟩) (by rw [encRows_length]; omega) ⟨_, rfl, by omega, by rw [encRows_length]; omega, ?_⟩
      rw [encRows_length]
      refine ⟨(JOff a lf lp c' p s t ld f2), ⟨_, rfl, rfl⟩, ?_, ?_⟩
      · rintro o w σ μ hw ⟨o7, rfl, rfl⟩
        obtain ⟨o', eo, hor, rfl⟩ := rng_get hw
        subst eo
        replace hor : o' < f2.length := hor
        obtain ⟨q1, q2⟩ := offAt_facts f2 p.length c' o' (by first | with_reducible assumption | with_reducible exact Nat.le_trans ‹_ ≤ 400› (by decide) | with_reducible exact Nat.le_trans ‹_ ≤ 100› (by decide) | with_reducible exact Int.natCast_nonneg _ | with_reducible exact n62 _ | with_reducible exact l62 ‹_ ≤ 400› (by decide) | with_reducible exact l62 ‹_ ≤ 100› (by decide) | omega)
        have qo : (offAt f2 p.length c' o').getD o' [] = f2.getD o' [] := by rw [q2]; simp
        have qr : (offAt f2 p.length c' o').getD p.length [] = f2.getD p.length [] := by
          rw [q2]; split
          · exact offRow_row _ _ _
          · rfl
        have qa : at2 (offAt f2 p.length c' o') o' c' = at2 f2 o' c' := by unfold at2; rw [qo]
        have hrow2 := g7.2 o' (by first | with_reducible assumption | with_reducible exact Nat.le_trans ‹_ ≤ 400› (by decide) | with_reducible exact Nat.le_trans ‹_ ≤ 100› (by decide) | with_reducible exact Int.natCast_nonneg _ | with_reducible exact n62 _ | with_reducible exact l62 ‹_ ≤ 400› (by decide) | with_reducible exact l62 ‹_ ≤ 100› (by decide) | omega)
        have hrowp := g7.2 p.length (by first | with_reducible assumption | with_reducible exact Nat.le_trans ‹_ ≤ 400› (by decide) | with_reducible exact Nat.le_trans ‹_ ≤ 100› (by decide) | with_reducible exact Int.natCast_nonneg _ | with_reducible exact n62 _ | with_reducible exact l62 ‹_ ≤ 400› (by decide) | with_reducible exact l62 ‹_ ≤ 100› (by decide) | omega)
        have hnext := offAt_succ f2 p.length c' o'
        generalize hg : offAt f2 p.length c' o' = g at *
        refine AgA.name 7 rfl (.inl rfl) ?_
        refine ExA.cons' <| StA.ite <| TrA.and_cons <| TrA.cmp <| EvA.name 7 rfl rfl <| EvA.name 4 rfl rfl <| OpA.ne (by simp [PyData.depth]) ⟨_, rfl, ?_⟩
        rw [eqv_nat]
        by_cases hop : o' = p.length
        · rw [decide_eq_true hop]
          refine ExA.nil <| ExA.nil ⟨_, rfl, ?_⟩
          rw [hnext]; unfold offLoop; rw [if_neg (by simp [hop])]
        rw [decide_eq_false hop]
        refine TrA.and_cons <| TrA.cmp <| EvA.sub <| EvA.sub <| EvA.name 1 rfl rfl <| EvA.name 7 rfl rfl <| SubA.at o' (.inr ⟨lf, rfl, .tail _ (.head _)⟩) rfl (getM (by first | with_reducible assumption | with_reducible exact Nat.le_trans ‹_ ≤ 400› (by decide) | with_reducible exact Nat.le_trans ‹_ ≤ 100› (by decide) | with_reducible exact Int.natCast_nonneg _ | with_reducible exact n62 _ | with_reducible exact l62 ‹_ ≤ 400› (by decide) | with_reducible exact l62 ‹_ ≤ 100› (by decide) | omega)) (by rw [encRows_length]; omega) <| EvA.name 3 rfl rfl <| SubA.at c' (.inl rfl) rfl (getQ (getRow (by rw [qo]; exact hrow2) hcn)) (by rw [List.length_map, qo]; omega) <| EvA.glob 13 rfl H.g_R0 <| OpA.ne (depth_encQ _ _) ⟨_, rfl, ?_⟩
        rw [eqv_R0]
        by_cases h0 : at2 g o' c' = 0
        · rw [decide_eq_true h0]
          refine ExA.nil <| ExA.nil ⟨_, rfl, ?_⟩
          rw [hnext]; unfold offLoop; rw [if_neg (by simp [h0])]
        rw [decide_eq_false h0]
        refine TrA.and_nil ?_
        have bo : BdP kk (g.getD o' []) := by rw [qo, g8 o' hop]; exact g4 o'
        have bp : BdP (2 * kk) (g.getD p.length []) := by rw [qr]; exact g9
        have bq : Bd kk (at2 g o' c') := by unfold at2; exact bo.getD hk1 c'
        refine ExA.cons' <| StA.expr (EvA.callR 14 rfl (H.defs 41 _ dTake.2).at <| ArA.cons <| EvA.name 1 rfl rfl <| ArA.cons <| EvA.name 7 rfl rfl <| ArA.cons <| EvA.name 4 rfl rfl <| ArA.cons <| EvA.sub <| EvA.sub <| EvA.name 1 rfl rfl <| EvA.name 7 rfl rfl <| SubA.at o' (.inr ⟨lf, rfl, .tail _ (.head _)⟩) rfl (getM (by first | with_reducible assumption | with_reducible exact Nat.le_trans ‹_ ≤ 400› (by decide) | with_reducible exact Nat.le_trans ‹_ ≤ 100› (by decide) | with_reducible exact Int.natCast_nonneg _ | with_reducible exact n62 _ | with_reducible exact l62 ‹_ ≤ 400› (by decide) | with_reducible exact l62 ‹_ ≤ 100› (by decide) | omega)) (by rw [encRows_length]; omega) <| EvA.name 3 rfl rfl <| SubA.at c' (.inl rfl) rfl (getQ (getRow (by rw [qo]; exact hrow2) hcn)) (by rw [List.length_map, qo]; omega) <|
          ArA.nil ⟨lf, _, _, [(lp, encN p)], _, [], _, _, rfl, rfl, rfl, take_spec H (by first | with_reducible assumption | with_reducible exact Nat.le_trans ‹_ ≤ 400› (by decide) | with_reducible exact Nat.le_trans ‹_ ≤ 100› (by decide) | with_reducible exact Int.natCast_nonneg _ | with_reducible exact n62 _ | with_reducible exact l62 ‹_ ≤ 400› (by decide) | with_reducible exact l62 ‹_ ≤ 100› (by decide) | omega) (by first | with_reducible assumption | with_reducible exact Nat.le_trans ‹_ ≤ 400› (by decide) | with_reducible exact Nat.le_trans ‹_ ≤ 100› (by decide) | with_reducible exact Int.natCast_nonneg _ | with_reducible exact n62 _ | with_reducible exact l62 ‹_ ≤ 400› (by decide) | with_reducible exact l62 ‹_ ≤ 100› (by decide) | omega) (by first | with_reducible assumption | with_reducible exact Nat.le_trans ‹_ ≤ 400› (by decide) | with_reducible exact Nat.le_trans ‹_ ≤ 100› (by decide) | with_reducible exact Int.natCast_nonneg _ | with_reducible exact n62 _ | with_reducible exact l62 ‹_ ≤ 400› (by decide) | with_reducible exact l62 ‹_ ≤ 100› (by decide) | omega) (by rw [qo, qr, hrow2, hrowp]) (by rw [qo]; omega) bo bp bq hk1 (by first | with_reducible assumption | with_reducible exact Nat.le_trans ‹_ ≤ 400› (by decide) | with_reducible exact Nat.le_trans ‹_ ≤ 100› (by decide) | with_reducible exact Int.natCast_nonneg _ | with_reducible exact n62 _ | with_reducible exact l62 ‹_ ≤ 400› (by decide) | with_reducible exact l62 ‹_ ≤ 100› (by decide) | omega) (by first | with_reducible assumption | with_reducible exact Nat.le_trans ‹_ ≤ 400› (by decide) | with_reducible exact Nat.le_trans ‹_ ≤ 100› (by decide) | with_reducible exact Int.natCast_nonneg _ | with_reducible exact n62 _ | with_reducible exact l62 ‹_ ≤ 400› (by decide) | with_reducible exact l62 ‹_ ≤ 100› (by decide) | omega), ⟨rfl, ?_⟩⟩) (not_interactive _)
        refine ExA.nil <| ExA.nil ⟨_, rfl, ?_⟩
        rw [hnext]; unfold offLoop; rw [if_pos ⟨hop, h0⟩]
        rfl
      · rintro σ μ ⟨o7, rfl, rfl⟩
        rw [List.length_map, List.length_range]
        refine ExA.cons' <| StA.append 2 rfl rfl (.head _) <| EvA.name 3 rfl rfl ⟨_, [], _, _, rfl, rfl, by rw [hN]; exact Nat.le_trans (show _ ≤ 400 by omega) (by decide), ?_⟩
        refine ExA.nil ⟨_, _, _, _, _, offAt f2 p.length c' f.length, p ++ [c'], ?_, rfl, ?_⟩
        · rw [hstep]; unfold colStep; simp only [hsp, hfs, hf2]; rfl
        · show _ = [(lp, encN (p ++ [c'])), (lf, encRows (offAt f2 p.length c' f.length))]
          have e1 : encN (p ++ [c']) = encN p ++ [.int c'] := by simp [encN]
          rw [e1, l2', hfl]
          rfl
  · rintro σ μ ⟨o3, o4, o5, o6, o7, f, p, hst, rfl, rfl⟩
    rw [List.length_map, List.length_range] at hst
    refine ⟨rfl, ?_⟩
    refine ExA.cons' <| StA.ret <| EvA.tuple <| ArA.cons <| JdW.frz <| EvA.name 1 rfl rfl ⟨lf, _, [(lp, encN p)], _, rfl, rfl, ?_⟩
    refine ArA.cons <| JdW.frz <| EvA.name 2 rfl rfl ⟨lp, _, [], _, rfl, rfl, ?_⟩
    refine ArA.nil ⟨_, rfl, by simp [sizeLine], .inl ?_⟩
    have en : ((n : Nat) : Int).toNat = n := rfl
    rw [en] at hst
    rw [hst]; rfl
end Mine
end
section
open PySem PySem.W PySem.Calls PyProof.Rows
set_option linter.unusedVariables false
namespace Mine
set_option maxRecDepth 100000

theorem echAt_piv {a : M} {r n k : Nat} (hR : Rows r n a) (hB : BdR k a) (hk : 1 ≤ k) : ∀ c, (echAt a c).2.length ≤ r ∧ ∀ x ∈ (echAt a c).2, x < c
  | 0 => ⟨by simp [echAt], fun x hx => by simp [echAt] at hx⟩
  | c + 1 => by
    obtain ⟨h1, h2, h3⟩ := echAt_facts hR hB hk c
    obtain ⟨g1, g2⟩ := echAt_piv hR hB hk c
    rw [echAt_succ]
    unfold colStep
    cases hs : spotsOf (echAt a c).1 (echAt a c).2.length c with
    | nil => exact ⟨g1, fun x hx => Nat.lt_succ_of_lt (g2 x hx)⟩
    | cons s l =>
      obtain ⟨q1, _⟩ := col_facts h1 h2 (eB_pos hk c) hs
      refine ⟨by simp; omega, fun x hx => ?_⟩
      rcases List.mem_append.mp hx with q | q
      · exact Nat.lt_succ_of_lt (g2 x q)
      · rw [List.mem_singleton.mp q]; exact Nat.lt_succ_self c

noncomputable def fillRow (red : M) (c : Nat) : Nat → List Nat → P → P
  | _, [], one => one
  | i, s :: r, one => fillRow red c (i + 1) r (one.set s (-(at2 red i c)))
noncomputable def nullRow (red : M) (piv : List Nat) (n c : Nat) : P := fillRow red c 0 piv ((List.replicate n 0).set c 1)
noncomputable def nullAt (red : M) (piv : List Nat) (n c : Nat) : M := ((List.range c).filter fun x => !piv.contains x).map (nullRow red piv n)
theorem fillRow_length (red : M) (c : Nat) : ∀ (p : List Nat) (i : Nat) (one : P), (fillRow red c i p one).length = one.length
  | [], _, _ => rfl
  | s :: r, i, one => by rw [fillRow, fillRow_length red c r]; simp
theorem nullAt_succ (red : M) (piv : List Nat) (n c : Nat) : nullAt red piv n (c + 1) = if piv.contains c then nullAt red piv n c else nullAt red piv n c ++ [nullRow red piv n c] := by
  unfold nullAt
  rw [List.range_succ, List.filter_append, List.map_append]
  by_cases h : piv.contains c
  · rw [if_pos h, List.filter_cons]; simp only [h, Bool.not_true]; simp
  · rw [if_neg h, List.filter_cons]; simp only [h]; simp

theorem any_contains (p : List Nat) (c : Nat) : ((encN p).any fun y => PyData.eqv y (.int (c : Int))) = p.contains c := by
  unfold encN
  rw [List.any_map]
  induction p with
  | nil => rfl
  | cons x t ih =>
    simp only [List.any_cons, Function.comp, List.contains_cons]
    rw [eqv_nat]
    congr 1
    simp only [eq_comm, Bool.beq_eq_decide_eq]

inductive JNull (a red : M) (piv : List Nat) (lf : Addr) (n : Nat) (c : Nat) (σ : Sg) (μ : Mu) : Prop
  | mk (o4 : Option WV) (o5 : Option WV) (o6 : Option WV) (o7 : Option WV) (h1 : σ = [some (.val (encM a)), some (.val (encM red)), some (.val (.list (encN piv))), some (.adr lf), o4, o5, o6, o7, none, none, none, none, none, none, none]) (h2 : μ = [(lf, encRows (nullAt red piv n c))])
inductive JFill (a red : M) (piv : List Nat) (lf lo : Addr) (n c' : Nat) (i : Nat) (σ : Sg) (μ : Mu) : Prop
  | mk (o6 : Option WV) (o7 : Option WV) (one : P) (h1 : σ = [some (.val (encM a)), some (.val (encM red)), some (.val (.list (encN piv))), some (.adr lf), some (.val (.int c')), some (.adr lo), o6, o7, none, none, none, none, none, none, none]) (h2 : μ = [(lo, one.map encQ), (lf, encRows (nullAt red piv n c'))]) (h3 : one.length = n) (h4 : fillRow red c' i (piv.drop i) one = nullRow red piv n c')
theorem null_spec {C : Cx} (H : Facts C) {a : M} {r n k : Nat} (hR : Rows r n a) (hB : BdR k a) (hk : 1 ≤ k) (h1 : 1 ≤ r) (h2 : r ≤ 400) (h3 : n ≤ 400) (hL : eB n k ≤ Lim) :
    FnSpec C 6 (Str.ofString "null_base") [encM a] (.val (encM (nullAt (echAt a n).1 (echAt a n).2 n n))) := by
  refine FnSpec.intro (H.defs 44 _ dNull.2) (by decide +kernel) (by decide +kernel) (by rfl) ?_ ?_
  · exact fun pm cd doc vs h => len1 h rfl fun _ => rfl
  intro env ok
  show ExA C _ dNull.1.body [some (.val (encM a)), none, none, none, none, none, none, none, none, none, none, none, none, none, none] [] _
  obtain ⟨R1, B1, P1⟩ := echAt_facts hR hB hk n
  obtain ⟨P2, P3⟩ := echAt_piv hR hB hk n
  have hech := echelon_spec H hR hB hk h1 h2 h3 hL
  generalize hst : echAt a n = st at *
  obtain ⟨red, piv⟩ := st
  dsimp only at R1 B1 P1 P2 P3 hech ⊢
  have hfl : red.length = r := R1.1
  refine ExA.cons <| StA.assignT (EvA.call 8 rfl (H.defs 42 _ dEch.2).at <| ArA.cons <| EvA.name 0 rfl rfl <| ArA.nil ⟨_, _, rfl, hech, AgA.tup rfl <| AgA.name 1 rfl (.inl rfl) <| AgA.name 2 rfl (.inl rfl) ⟨rfl, ?_⟩⟩) (by rfl) (by rfl)
  refine ExA.cons <| StA.assignN 3 rfl (.inl rfl) <| EvA.list <| ArA.nil ⟨_, rfl, by simp, fun lf => ⟨rfl, ?_⟩⟩
  refine ExA.cons <| StA.for <| ItA.range1 9 rfl H.b_range.1 H.b_range.2 <| EvA.sub <| EvA.call 10 rfl (H.defs 38 _ dShape.2).at <| ArA.cons <| EvA.name 0 rfl rfl <| ArA.nil ⟨_, _, rfl, (shape1 H hR h1 h2 h3).le (show 1 ≤ 5 by decide), EvA.cint <| SubA.tupN 1 rfl (by simp) ⟨_, rfl, by omega, by omega, ?_⟩⟩
  refine ⟨(JNull a red piv lf n), ⟨none, none, none, none, rfl, rfl⟩, ?_, ?_⟩
  · rintro c w σ μ hw ⟨o4, o5, o6, o7, rfl, rfl⟩
    obtain ⟨c', ec, hcn, rfl⟩ := rng_get hw
    subst ec
    replace hcn : c' < n := hcn
    have hnext := nullAt_succ red piv n c'
    refine AgA.name 4 rfl (.inl rfl) ?_
    refine ExA.cons' <| StA.ite <| TrA.cmp <| EvA.name 4 rfl rfl <| EvA.name 2 rfl rfl <| OpA.inn (by simp [PyData.depth]) ⟨_, rfl, ?_⟩
    rw [any_contains]
    by_cases hin : piv.contains c' = true
    · rw [hin]
      refine ExA.cons' <| StA.cont ⟨_, _, _, _, rfl, ?_⟩
      rw [hnext, if_pos hin]
    rw [Bool.not_eq_true] at hin
    rw [hin]
    refine ExA.nil ?_
    refine ExA.cons' <| StA.assignN 5 rfl (.inl rfl) <| EvA.bin <| JdW.frz <| EvA.list <| ArA.cons <| EvA.glob 11 rfl H.g_R0 <| ArA.nil ⟨_, rfl, by simp [sizeLine], fun l => ⟨l, _, [], _, rfl, rfl, ?_⟩⟩
    refine EvA.sub <| EvA.call 10 rfl (H.defs 38 _ dShape.2).at <| ArA.cons <| EvA.name 0 rfl rfl <| ArA.nil ⟨_, _, rfl, (shape1 H hR h1 h2 h3).le (show 1 ≤ 5 by decide), EvA.cint <| SubA.tupN 1 rfl (by simp) <| OpA.mulL (.inl rfl) (by first | with_reducible assumption | with_reducible exact Nat.le_trans ‹_ ≤ 400› (by decide) | with_reducible exact Nat.le_trans ‹_ ≤ 100› (by decide) | with_reducible exact Int.natCast_nonneg _ | with_reducible exact n62 _ | with_reducible exact l62 ‹_ ≤ 400› (by decide) | with_reducible exact l62 ‹_ ≤ 100› (by decide) | omega) (by first | with_reducible assumption | with_reducible exact Nat.le_trans ‹_ ≤ 400› (by decide) | with_reducible exact Nat.le_trans ‹_ ≤ 100› (by decide) | with_reducible exact Int.natCast_nonneg _ | with_reducible exact n62 _ | with_reducible exact l62 ‹_ ≤ 400› (by decide) | with_reducible exact l62 ‹_ ≤ 100› (by decide) | omega) (by first | with_reducible exact lz ‹_ ≤ 400› (by decide) | with_reducible exact lz ‹_ ≤ 100› (by decide) | with_reducible exact lz ‹_ ≤ 50› (by decide) | with_reducible exact lz62 ‹_ ≤ 400› (by decide) | with_reducible exact lz62 ‹_ ≤ 100› (by decide) | with_reducible exact lz62 ‹_ ≤ 50› (by decide) | (simp; omega)) fun lo => ?_⟩
    have e0 : (List.replicate ((n : Nat) : Int).toNat [PyData.tuple [.int 0, .int 1]]).flatten = (List.replicate n (0 : Rat)).map encQ := by
      rw [flat_rep, List.map_replicate, encQ_zero]; congr 1
    rw [e0]
    refine ExA.cons' <| StA.assignS <| EvA.glob 12 rfl H.g_R1 ⟨_, rfl, EvA.name 5 rfl rfl <| EvA.name 4 rfl rfl ⟨lo, [], _, _, _, c', rfl, rfl, rfl, by omega, by simp; omega, seqIndex_nat (by simpa using hcn), ?_⟩⟩
    have e1 : ((List.replicate n (0 : Rat)).map encQ).set c' (.tuple [.int 1, .int 1]) = ((List.replicate n (0 : Rat)).set c' 1).map encQ := set_map_encQ _ c' 1
    rw [e1]
    refine ExA.cons' <| StA.for <| ItA.enum 13 rfl H.b_enum.1 H.b_enum.2 <| EvA.name 2 rfl rfl ⟨_, rfl, ?_⟩
    refine ⟨(JFill a red piv lf lo n c'), ⟨_, _, (List.replicate n (0 : Rat)).set c' 1, rfl, rfl, by simp, rfl⟩, ?_, ?_⟩
    · rintro i w σ μ hw ⟨o6, o7, one, rfl, rfl, hone, hM⟩
      obtain ⟨d, hd, rfl⟩ := enumW_get hw
      obtain ⟨s, hs, rfl⟩ := encN_get hd
      have hi := (List.getElem?_eq_some_iff.mp hs).1
      have hsn := P3 s (List.mem_of_getElem? hs)
      rw [drop_cons hs] at hM
      refine AgA.tup rfl <| AgA.name 6 rfl (.inl rfl) <| AgA.name 7 rfl (.inl rfl) ?_
      have hrow := R1.2 i (by first | with_reducible assumption | with_reducible exact Nat.le_trans ‹_ ≤ 400› (by decide) | with_reducible exact Nat.le_trans ‹_ ≤ 100› (by decide) | with_reducible exact Int.natCast_nonneg _ | with_reducible exact n62 _ | with_reducible exact l62 ‹_ ≤ 400› (by decide) | with_reducible exact l62 ‹_ ≤ 100› (by decide) | omega)
      refine ExA.cons' <| StA.assignS <| EvA.call 14 rfl (H.defs 12 _ dRneg.2).at <| ArA.cons <| EvA.sub <| EvA.sub <| EvA.name 1 rfl rfl <| EvA.name 6 rfl rfl <| SubA.at i (.inl rfl) rfl (getM (by first | with_reducible assumption | with_reducible exact Nat.le_trans ‹_ ≤ 400› (by decide) | with_reducible exact Nat.le_trans ‹_ ≤ 100› (by decide) | with_reducible exact Int.natCast_nonneg _ | with_reducible exact n62 _ | with_reducible exact l62 ‹_ ≤ 400› (by decide) | with_reducible exact l62 ‹_ ≤ 100› (by decide) | omega)) (by first | with_reducible exact lz ‹_ ≤ 400› (by decide) | with_reducible exact lz ‹_ ≤ 100› (by decide) | with_reducible exact lz ‹_ ≤ 50› (by decide) | with_reducible exact lz62 ‹_ ≤ 400› (by decide) | with_reducible exact lz62 ‹_ ≤ 100› (by decide) | with_reducible exact lz62 ‹_ ≤ 50› (by decide) | (rw [List.length_map]; omega)) <| EvA.name 4 rfl rfl <| SubA.at c' (.inl rfl) rfl (getQ (getRow hrow hcn)) (by first | with_reducible exact lz ‹_ ≤ 400› (by decide) | with_reducible exact lz ‹_ ≤ 100› (by decide) | with_reducible exact lz ‹_ ≤ 50› (by decide) | with_reducible exact lz62 ‹_ ≤ 400› (by decide) | with_reducible exact lz62 ‹_ ≤ 100› (by decide) | with_reducible exact lz62 ‹_ ≤ 50› (by decide) | (rw [List.length_map]; omega)) <|
        ArA.nil ⟨_, _, rfl, (rneg_spec H _).le (show 1 ≤ 5 by decide), ⟨_, rfl, EvA.name 5 rfl rfl <| EvA.name 7 rfl rfl ⟨lo, [], _, _, _, s, rfl, rfl, rfl, by omega, by rw [List.length_map]; omega, seqIndex_nat (by first | with_reducible exact lz ‹_ ≤ 400› (by decide) | with_reducible exact lz ‹_ ≤ 100› (by decide) | with_reducible exact lz ‹_ ≤ 50› (by decide) | with_reducible exact lz62 ‹_ ≤ 400› (by decide) | with_reducible exact lz62 ‹_ ≤ 100› (by decide) | with_reducible exact lz62 ‹_ ≤ 50› (by decide) | (rw [List.length_map]; omega)), ?_⟩⟩⟩
      refine ExA.nil ⟨_, _, one.set s (-(at2 red i c')), rfl, ?_, by simpa using hone, hM⟩
      rw [← set_map_encQ]; rfl
    · rintro σ μ ⟨o6, o7, one, rfl, rfl, hone, hM⟩
      have hlen : (enumW (encN piv)).length = piv.length := by rw [enumW_length]; simp [encN]
      rw [hlen, List.drop_length] at hM
      refine ExA.cons' <| StA.append 3 rfl rfl (.tail _ (.head _)) <| JdW.frz <| EvA.name 5 rfl rfl ⟨lo, _, [], _, rfl, rfl, ⟨_, [], _, _, rfl, rfl, ?_, ?_⟩⟩
      · rw [encRows_length]
        unfold nullAt
        rw [List.length_map]
        refine Nat.le_trans (List.length_filter_le _ _) ?_
        rw [List.length_range]
        exact Nat.le_trans (show c' ≤ 400 by omega) (by decide)
      · refine ExA.nil ⟨_, _, _, _, rfl, ?_⟩
        rw [hnext, if_neg (by rw [hin]; decide), ← hM]
        simp [encRows, encP, fillRow]
  · rintro σ μ ⟨o4, o5, o6, o7, rfl, rfl⟩
    rw [List.length_map, List.length_range]
    refine ⟨rfl, ?_⟩
    refine ExA.cons' <| StA.ret <| JdW.frz <| EvA.name 3 rfl rfl ⟨lf, _, [], _, rfl, rfl, .inl ?_⟩
    have en : ((n : Nat) : Int).toNat = n := rfl
    rw [en]; rfl
end Mine
end
section
open PySem PySem.W PySem.Calls PyProof.Rows
set_option linter.unusedVariables false
namespace Mine
set_option maxRecDepth 100000

noncomputable def dDraw : { x : DefText // nthDef 54 = some x } := ⟨_, rfl⟩
noncomputable def dSteps : { x : DefText // nthDef 55 = some x } := ⟨_, rfl⟩
noncomputable def dWithin : { x : DefText // nthDef 56 = some x } := ⟨_, rfl⟩
noncomputable def dBack : { x : DefText // nthDef 57 = some x } := ⟨_, rfl⟩
noncomputable def dLines : { x : DefText // nthDef 58 = some x } := ⟨_, rfl⟩

/-! ### draws -/
noncomputable def drawTbl : List Int := [1, 1, 4, 0, 1, 1, 0, 0, 2, 1, 1]
noncomputable def drawV (cells : Z) (spot : Nat) (many : Int) : Int := if spot < cells.length then ((cells.getD spot 0).natAbs : Int).fmod many else (drawTbl.getD (spot % 11) 0).fmod many
theorem drawV_bd (cells : Z) (spot : Nat) {many : Int} (h : 0 < many) : 0 ≤ drawV cells spot many ∧ drawV cells spot many < many := by
  unfold drawV
  split
  · exact ⟨Int.fmod_nonneg_of_pos _ h, Int.fmod_lt_of_pos _ h⟩
  · exact ⟨Int.fmod_nonneg_of_pos _ h, Int.fmod_lt_of_pos _ h⟩
inductive IntsE : List Expr → List Int → Prop
  | nil : IntsE [] []
  | cons {i : Int} {k : Nat} {p : Pos} {r : List Expr} {is : List Int} : IntsE r is → IntsE (.Constant (.int i) k p :: r) (i :: is)
theorem ArA.ints {C : Cx} {L : Lx} {σ : Sg} {μ : Mu} {pos : Pos} {es : List Expr} {is : List Int} (h : IntsE es is) : ∀ {Q : List WV → Sg → Mu → Prop}, Q (is.map fun i => .val (.int i)) σ μ → ArA C L pos es σ μ Q := by
  induction h with
  | nil => exact fun hq => ArA.nil hq
  | cons _ ih => exact fun hq => ArA.cons <| EvA.cint <| ih hq
theorem vals_ints (is : List Int) : vals (is.map fun i => WV.val (.int i)) = some (is.map .int) := by
  induction is with
  | nil => rfl
  | cons x t ih => simp only [List.map_cons, vals, ih]; rfl
theorem draw_spec {C : Cx} (H : Facts C) {cells : Z} {spot : Nat} {many : Int} (hc : cells.length ≤ 100) (hm : 0 < many) :
    FnSpecR C 1 (Str.ofString "_law_draw") [encZ cells, .int spot] [.int many] [encZ cells, .int ((spot : Int) + 1)] (.int (drawV cells spot many)) := by
  refine FnSpecR.intro (H.defs 54 _ dDraw.2) (by decide +kernel) (by decide +kernel) (by rfl) ?_ ?_
  · exact fun pm cd doc vs h => len2 h rfl fun _ _ => rfl
  intro env ok l
  show ExA C _ dDraw.1.body [some (.adr l), some (.val (.int many)), none, none, none] [(l, [encZ cells, .int spot])] _
  refine ExA.cons' <| StA.assignN 2 rfl (.inl rfl) <| EvA.sub <| EvA.name 0 rfl rfl <| EvA.cint <| SubA.at 1 (.inr ⟨l, rfl, .head _⟩) rfl rfl (by simp) ?_
  refine ExA.cons' <| StA.assignS <| EvA.bin <| EvA.name 2 rfl rfl <| EvA.cint <| OpA.add ⟨_, rfl, EvA.name 0 rfl rfl <| EvA.cint ⟨l, [], [], _, _, 1, rfl, rfl, rfl, by omega, by simp, rfl, ?_⟩⟩
  refine ExA.cons' <| StA.ite <| TrA.cmp <| EvA.name 2 rfl rfl <| EvA.callB 3 rfl H.b_len.1 H.b_len.2 <| ArA.cons <| EvA.sub <| EvA.name 0 rfl rfl <| EvA.cint <| SubA.at 0 (.inr ⟨l, rfl, .head _⟩) rfl rfl (by simp) <| ArA.nil <| ClA.len_list (.inl rfl) (by first | with_reducible exact lz ‹_ ≤ 400› (by decide) | with_reducible exact lz ‹_ ≤ 100› (by decide) | with_reducible exact lz ‹_ ≤ 50› (by decide) | with_reducible exact lz62 ‹_ ≤ 400› (by decide) | with_reducible exact lz62 ‹_ ≤ 100› (by decide) | with_reducible exact lz62 ‹_ ≤ 50› (by decide) | (simp; omega)) <| OpA.lt ⟨_, rfl, ?_⟩
  rw [List.length_map, lt_int_nat]
  by_cases hs : spot < cells.length
  · rw [decide_eq_true hs]
    refine ExA.cons' <| StA.ret <| EvA.bin <| EvA.callB 4 rfl H.b_abs.1 H.b_abs.2 <| ArA.cons <| EvA.sub <| EvA.sub <| EvA.name 0 rfl rfl <| EvA.cint <| SubA.at 0 (.inr ⟨l, rfl, .head _⟩) rfl rfl (by simp) <| EvA.name 2 rfl rfl <| SubA.at spot (.inl rfl) rfl (getZ (q := cells.getD spot 0) (by simp [List.getD_eq_getElem?_getD, hs])) (by first | with_reducible exact lz ‹_ ≤ 400› (by decide) | with_reducible exact lz ‹_ ≤ 100› (by decide) | with_reducible exact lz ‹_ ≤ 50› (by decide) | with_reducible exact lz62 ‹_ ≤ 400› (by decide) | with_reducible exact lz62 ‹_ ≤ 100› (by decide) | with_reducible exact lz62 ‹_ ≤ 50› (by decide) | (rw [List.length_map]; omega)) <| ArA.nil <| ClA.abs <| EvA.name 1 rfl rfl <| OpA.mod (by first | with_reducible assumption | with_reducible exact Nat.le_trans ‹_ ≤ 400› (by decide) | with_reducible exact Nat.le_trans ‹_ ≤ 100› (by decide) | with_reducible exact Int.natCast_nonneg _ | with_reducible exact n62 _ | with_reducible exact l62 ‹_ ≤ 400› (by decide) | with_reducible exact l62 ‹_ ≤ 100› (by decide) | omega) ⟨.head _, .inl ?_⟩
    rw [natAbs_if, drawV, if_pos hs]
  · rw [decide_eq_false hs]
    refine ExA.nil ?_
    have hlt : spot % 11 < 11 := Nat.mod_lt _ (by decide)
    have hk : (spot : Int).fmod 11 = ((spot % 11 : Nat) : Int) := by rw [Int.fmod_eq_emod_of_nonneg _ (by first | with_reducible assumption | with_reducible exact Nat.le_trans ‹_ ≤ 400› (by decide) | with_reducible exact Nat.le_trans ‹_ ≤ 100› (by decide) | with_reducible exact Int.natCast_nonneg _ | with_reducible exact n62 _ | with_reducible exact l62 ‹_ ≤ 400› (by decide) | with_reducible exact l62 ‹_ ≤ 100› (by decide) | omega)]; omega
    refine ExA.cons' ?_
    refine StA.ret ?_
    refine EvA.bin ?_
    refine EvA.sub ?_
    refine EvA.tuple ?_
    refine ArA.ints (is := drawTbl) (by repeat constructor) ?_
    refine ⟨_, vals_ints _, by simp [sizeLine, drawTbl], ?_⟩
    refine EvA.bin <| EvA.name 2 rfl rfl <| EvA.cint <| OpA.mod (by decide) ?_
    rw [hk]
    refine SubA.tupN (spot % 11) (d := .int (drawTbl.getD (spot % 11) 0)) (getZ ?_) (by simp [drawTbl]) ?_
    · have : ∀ j, j < 11 → drawTbl[j]? = some (drawTbl.getD j 0) := by decide
      exact this _ hlt
    · refine EvA.name 1 rfl rfl <| OpA.mod (by first | with_reducible assumption | with_reducible exact Nat.le_trans ‹_ ≤ 400› (by decide) | with_reducible exact Nat.le_trans ‹_ ≤ 100› (by decide) | with_reducible exact Int.natCast_nonneg _ | with_reducible exact n62 _ | with_reducible exact l62 ‹_ ≤ 400› (by decide) | with_reducible exact l62 ‹_ ≤ 100› (by decide) | omega) ⟨.head _, .inl ?_⟩
      rw [drawV, if_neg hs]

/-! ### convergents -/
noncomputable def convS (nums places : Z) (b0 b1 : Z) : Nat → Z
  | 0 => b0
  | 1 => b1
  | k + 2 => zadd (zscale (convS nums places b0 b1 (k + 1)) (nums.getD (k + 1) 0)) (zmul [0 - places.getD k 0, 1] (convS nums places b0 b1 k))
noncomputable def convTop (nums places : Z) : Nat → Z := convS nums places [1] (if nums.getD 0 0 ≠ 0 then [nums.getD 0 0] else [])
noncomputable def convBot (nums places : Z) : Nat → Z := convS nums places [] [1]
noncomputable def encZs (S : Nat → Z) (n : Nat) : List PyData := (List.range n).map fun i => encZ (S i)
theorem encZs_length (S : Nat → Z) (n : Nat) : (encZs S n).length = n := by simp [encZs]
theorem encZs_succ (S : Nat → Z) (n : Nat) : encZs S (n + 1) = encZs S n ++ [encZ (S n)] := by simp [encZs, List.range_succ]
theorem encZs_get (S : Nat → Z) {n i : Nat} (h : i < n) : (encZs S n)[i]? = some (encZ (S i)) := by simp [encZs, h]

theorem seqIndex_last2 {n : Nat} : seqIndex? (-2) (n + 2) = some n := by
  unfold seqIndex?
  simp only [show (-2 : Int) < 0 by decide, if_true]
  have h : (decide (0 ≤ -2 + ((n + 2 : Nat) : Int)) && decide (-2 + ((n + 2 : Nat) : Int) < ((n + 2 : Nat) : Int))) = true := by simp; omega
  rw [if_pos h]
  congr 1
  omega

end Mine
end
section
open PySem PySem.W PySem.Calls PyProof.Rows
set_option linter.unusedVariables false
namespace Mine
set_option maxRecDepth 100000

theorem encZs_len (S : Nat → Z) (n : Nat) : (encZs S n).length = n := by simp [encZs]
theorem encZs_last {S : Nat → Z} {n : Nat} : (encZs S (n + 1)).getLast? = some (encZ (S n)) := by simp [encZs, List.range_succ]
theorem encZ_list (xs : Z) (ds : List PyData) (h : ds = xs.map .int) : PyData.list ds = encZ xs := by rw [h]; rfl
theorem BdZ.two {n : Nat} {x : Int} (h : x.natAbs < 2 ^ n) (h1 : 1 ≤ n) : BdZ n [x, 1] := fun q hq => by
  rcases List.mem_cons.mp hq with e | e
  · rw [e]; exact h
  · rw [List.mem_singleton.mp e]
    have : 2 ^ 1 ≤ 2 ^ n := pow_le2 h1
    show (1 : Int).natAbs < _; simp; omega

inductive JSteps (nums places : Z) (lt lb : Addr) (i : Nat) (σ : Sg) (μ : Mu) : Prop
  | mk (o4 : Option WV) (o5 : Option WV) (h1 : σ = [some (.val (encZ nums)), some (.val (encZ places)), some (.adr lt), some (.adr lb), o4, o5, none, none, none, none, none]) (h2 : μ = [(lb, encZs (convBot nums places) (i + 2)), (lt, encZs (convTop nums places) (i + 2))])
inductive JStep1 (nums places : Z) (lt lb : Addr) (i' : Nat) (j : Nat) (σ : Sg) (μ : Mu) : Prop
  | mk (o5 : Option WV) (h1 : σ = [some (.val (encZ nums)), some (.val (encZ places)), some (.adr lt), some (.adr lb), some (.val (.int (i' + 1 : Nat))), o5, none, none, none, none, none]) (h2 : μ = [(lb, encZs (convBot nums places) (i' + 2 + (if j = 2 then 1 else 0))), (lt, encZs (convTop nums places) (i' + 2 + (if j = 0 then 0 else 1)))])
set_option maxHeartbeats 2000000 in
theorem steps_spec {C : Cx} (H : Facts C) {nums places : Z} {n : Nat} (hn : nums.length ≤ 50) (hn1 : 1 ≤ nums.length) (hp : nums.length ≤ places.length) (hp2 : places.length ≤ 100) (h1 : 1 ≤ n) (hL : n ≤ 1000)
    (bn : BdZ n nums) (bp : BdZ n places) (hT : ∀ k, k ≤ nums.length → BdZ n (convTop nums places k) ∧ (convTop nums places k).length ≤ 100) (hB : ∀ k, k ≤ nums.length → BdZ n (convBot nums places k) ∧ (convBot nums places k).length ≤ 100)
    (hzT : ∀ k, k + 1 < nums.length → (zscale (convTop nums places (k + 1)) (nums.getD (k + 1) 0)).length ≤ 500 ∧ (zmul [0 - places.getD k 0, 1] (convTop nums places k)).length ≤ 500)
    (hzB : ∀ k, k + 1 < nums.length → (zscale (convBot nums places (k + 1)) (nums.getD (k + 1) 0)).length ≤ 500 ∧ (zmul [0 - places.getD k 0, 1] (convBot nums places k)).length ≤ 500) :
    FnSpec C 3 (Str.ofString "_law_steps") [encZ nums, encZ places] (.val (.tuple [.list (encZs (fun i => convTop nums places (i + 1)) nums.length), .list (encZs (fun i => convBot nums places (i + 1)) nums.length)])) := by
  have hLim : Lim = 67108864 := rfl
  refine FnSpec.intro (H.defs 55 _ dSteps.2) (by decide +kernel) (by decide +kernel) (by rfl) ?_ ?_
  · exact fun pm cd doc vs h => len2 h rfl fun _ _ => rfl
  intro env ok
  show ExA C _ dSteps.1.body [some (.val (encZ nums)), some (.val (encZ places)), none, none, none, none, none, none, none, none, none] [] _
  have gn : ∀ {i : Nat}, i < nums.length → nums[i]? = some (nums.getD i 0) := fun h => by simp [List.getD_eq_getElem?_getD, h]
  have gp : ∀ {i : Nat}, i < places.length → places[i]? = some (places.getD i 0) := fun h => by simp [List.getD_eq_getElem?_getD, h]
  have bnd : ∀ k, nums.getD k 0 = nums.getD k 0 ∧ (nums.getD k 0).natAbs < 2 ^ n := fun k => ⟨rfl, by
    rw [List.getD_eq_getElem?_getD]
    cases e : nums[k]? with
    | none => exact Nat.pow_pos (by decide)
    | some q => exact bn q (List.mem_of_getElem? e)⟩
  have bpd : ∀ k, (0 - places.getD k 0).natAbs < 2 ^ n := fun k => by
    rw [List.getD_eq_getElem?_getD]
    cases e : places[k]? with
    | none => exact Nat.pow_pos (by decide)
    | some q => have := bp q (List.mem_of_getElem? e); show (0 - q).natAbs < _; omega
  refine ExA.cons' <| StA.assignW 2 3 rfl rfl (EvA.two <| ArA.cons <| EvA.list <| ArA.cons <| JdW.frz <| EvA.list <| ArA.cons <| EvA.cint <| ArA.nil ⟨_, rfl, by simp [sizeLine], fun l => ⟨l, _, [], _, rfl, rfl, ?_⟩⟩) (swapped_yes (i := 2) (j := 3) rfl rfl (by decide) rfl rfl rfl rfl)
  refine ArA.cons <| JdW.mono (Q := fun w σ1 μ1 => w = .val (encZ (convTop nums places 1)) ∧ σ1 = [some (.val (encZ nums)), some (.val (encZ places)), none, none, none, none, none, none, none, none, none] ∧ μ1 = []) ?_ ?_
  · refine JdW.frz <| EvA.ifexp <| TrA.cmp <| EvA.sub <| EvA.name 0 rfl rfl <| EvA.cint <| SubA.at 0 (.inl rfl) rfl (getZ (gn hn1)) (by first | with_reducible exact lz ‹_ ≤ 400› (by decide) | with_reducible exact lz ‹_ ≤ 100› (by decide) | with_reducible exact lz ‹_ ≤ 50› (by decide) | with_reducible exact lz62 ‹_ ≤ 400› (by decide) | with_reducible exact lz62 ‹_ ≤ 100› (by decide) | with_reducible exact lz62 ‹_ ≤ 50› (by decide) | (rw [List.length_map]; omega)) <| EvA.cint <| OpA.ne (by simp [PyData.depth]) ⟨_, rfl, ?_⟩
    rw [bool_not_eqv]
    by_cases h0 : nums.getD 0 0 = 0
    · rw [decide_eq_true h0]
      refine EvA.list <| ArA.nil ⟨_, rfl, by simp, fun l => ⟨l, _, [], _, rfl, rfl, ?_, rfl, rfl⟩⟩
      show _ = WV.val (encZ (if nums.getD 0 0 ≠ 0 then [nums.getD 0 0] else []))
      rw [if_neg (by simpa using h0)]; rfl
    · rw [decide_eq_false h0]
      refine EvA.list <| ArA.cons <| EvA.sub <| EvA.name 0 rfl rfl <| EvA.cint <| SubA.at 0 (.inl rfl) rfl (getZ (gn hn1)) (by first | with_reducible exact lz ‹_ ≤ 400› (by decide) | with_reducible exact lz ‹_ ≤ 100› (by decide) | with_reducible exact lz ‹_ ≤ 50› (by decide) | with_reducible exact lz62 ‹_ ≤ 400› (by decide) | with_reducible exact lz62 ‹_ ≤ 100› (by decide) | with_reducible exact lz62 ‹_ ≤ 50› (by decide) | (rw [List.length_map]; omega)) <| ArA.nil ⟨_, rfl, by simp [sizeLine], fun l => ⟨l, _, [], _, rfl, rfl, ?_, rfl, rfl⟩⟩
      show _ = WV.val (encZ (if nums.getD 0 0 ≠ 0 then [nums.getD 0 0] else []))
      rw [if_pos h0]; rfl
  rintro w σ1 μ1 ⟨rfl, rfl, rfl⟩
  refine ArA.nil ⟨_, rfl, by simp [sizeLine], fun lt => ?_⟩
  refine ArA.cons <| EvA.list <| ArA.cons <| JdW.frz <| EvA.list <| ArA.nil ⟨_, rfl, by simp, fun l => ⟨l, _, [], _, rfl, rfl, ?_⟩⟩
  refine ArA.cons <| JdW.frz <| EvA.list <| ArA.cons <| EvA.cint <| ArA.nil ⟨_, rfl, by simp [sizeLine], fun l => ⟨l, _, [], _, rfl, rfl, ?_⟩⟩
  refine ArA.nil ⟨_, rfl, by simp [sizeLine], fun lb => ArA.nil ⟨_, _, rfl, _, _, rfl, ?_⟩⟩
  show ExA C _ _ _ [(lb, encZs (convBot nums places) 2), (lt, encZs (convTop nums places) 2)] _
  refine ExA.cons' <| StA.for <| ItA.range2 6 rfl H.b_range.1 H.b_range.2 <| EvA.cint <| EvA.callB 7 rfl H.b_len.1 H.b_len.2 <| ArA.cons <| EvA.name 0 rfl rfl <| ArA.nil <| ClA.len_list (.inl rfl) (by first | with_reducible exact lz ‹_ ≤ 400› (by decide) | with_reducible exact lz ‹_ ≤ 100› (by decide) | with_reducible exact lz ‹_ ≤ 50› (by decide) | with_reducible exact lz62 ‹_ ≤ 400› (by decide) | with_reducible exact lz62 ‹_ ≤ 100› (by decide) | with_reducible exact lz62 ‹_ ≤ 50› (by decide) | (rw [List.length_map]; omega)) ⟨_, _, rfl, rfl, by omega, by omega, by rw [List.length_map]; omega, by rw [List.length_map]; omega, ?_⟩
  have er : (((List.map PyData.int nums).length : Int) - 1).toNat = nums.length - 1 := tn_sub (by rw [List.length_map]) rfl
  rw [er]
  refine ⟨(JSteps nums places lt lb), ⟨_, _, rfl, rfl⟩, ?_, ?_⟩
  · rintro i w σ μ hw ⟨o4, o5, rfl, rfl⟩
    obtain ⟨i', ei, hin, rfl⟩ := rng_get hw
    subst ei
    replace hin : i' < nums.length - 1 := hin
    have ek : (1 : Int) + (i' : Int) = ((i' + 1 : Nat) : Int) := by omega
    have ek2 : ((i' + 1 : Nat) : Int) - 1 = ((i' : Nat) : Int) := by omega
    rw [ek]
    refine AgA.name 4 rfl (.inl rfl) ?_
    obtain ⟨zt1, zt2⟩ := hzT i' (by first | with_reducible assumption | with_reducible exact Nat.le_trans ‹_ ≤ 400› (by decide) | with_reducible exact Nat.le_trans ‹_ ≤ 100› (by decide) | with_reducible exact Int.natCast_nonneg _ | with_reducible exact n62 _ | with_reducible exact l62 ‹_ ≤ 400› (by decide) | with_reducible exact l62 ‹_ ≤ 100› (by decide) | omega)
    obtain ⟨zb1, zb2⟩ := hzB i' (by first | with_reducible assumption | with_reducible exact Nat.le_trans ‹_ ≤ 400› (by decide) | with_reducible exact Nat.le_trans ‹_ ≤ 100› (by decide) | with_reducible exact Int.natCast_nonneg _ | with_reducible exact n62 _ | with_reducible exact l62 ‹_ ≤ 400› (by decide) | with_reducible exact l62 ‹_ ≤ 100› (by decide) | omega)
    refine ExA.cons' <| StA.for <| ItA.two <| EvA.two <| ArA.cons <| EvA.name 2 rfl rfl <| ArA.cons <| EvA.name 3 rfl rfl <| ArA.nil ⟨_, _, rfl, _, _, rfl, ?_⟩
    refine ⟨(JStep1 nums places lt lb i'), ⟨_, rfl, rfl⟩, ?_, ?_⟩
    · rintro j w σ μ hw ⟨o5, rfl, rfl⟩
      match j, hw with
      | 0, hw =>
        cases hw
        refine AgA.name 5 rfl (.inl rfl) ?_
        refine ExA.cons' <| StA.append 5 rfl rfl (.tail _ (.head _)) <| EvA.call 8 rfl (H.defs 47 _ dZadd.2).at <| ArA.cons <| EvA.call 9 rfl (H.defs 50 _ dZscale.2).at <| ArA.cons <| EvA.sub <| EvA.name 5 rfl rfl <| EvA.un <| EvA.cint <| Op1.neg <| SubA.last (.inr ⟨lt, rfl, .tail _ (.head _)⟩) encZs_last (by rw [encZs_len]; simp; omega) <| ArA.cons <| EvA.sub <| EvA.name 0 rfl rfl <| EvA.name 4 rfl rfl <| SubA.at (i' + 1) (.inl rfl) rfl (getZ (gn (by first | with_reducible assumption | with_reducible exact Nat.le_trans ‹_ ≤ 400› (by decide) | with_reducible exact Nat.le_trans ‹_ ≤ 100› (by decide) | with_reducible exact Int.natCast_nonneg _ | with_reducible exact n62 _ | with_reducible exact l62 ‹_ ≤ 400› (by decide) | with_reducible exact l62 ‹_ ≤ 100› (by decide) | omega))) (by first | with_reducible exact lz ‹_ ≤ 400› (by decide) | with_reducible exact lz ‹_ ≤ 100› (by decide) | with_reducible exact lz ‹_ ≤ 50› (by decide) | with_reducible exact lz62 ‹_ ≤ 400› (by decide) | with_reducible exact lz62 ‹_ ≤ 100› (by decide) | with_reducible exact lz62 ‹_ ≤ 50› (by decide) | (rw [List.length_map]; omega)) <| ArA.nil ⟨_, _, rfl, (zscale_spec H (hT (i' + 1) (by first | with_reducible assumption | with_reducible exact Nat.le_trans ‹_ ≤ 400› (by decide) | with_reducible exact Nat.le_trans ‹_ ≤ 100› (by decide) | with_reducible exact Int.natCast_nonneg _ | with_reducible exact n62 _ | with_reducible exact l62 ‹_ ≤ 400› (by decide) | with_reducible exact l62 ‹_ ≤ 100› (by decide) | omega)).1 (bnd (i' + 1)).2 (by first | with_reducible assumption | with_reducible exact Nat.le_trans ‹_ ≤ 400› (by decide) | with_reducible exact Nat.le_trans ‹_ ≤ 100› (by decide) | with_reducible exact Int.natCast_nonneg _ | with_reducible exact n62 _ | with_reducible exact l62 ‹_ ≤ 400› (by decide) | with_reducible exact l62 ‹_ ≤ 100› (by decide) | omega) (by have := (hT (i' + 1) (by first | with_reducible assumption | with_reducible exact Nat.le_trans ‹_ ≤ 400› (by decide) | with_reducible exact Nat.le_trans ‹_ ≤ 100› (by decide) | with_reducible exact Int.natCast_nonneg _ | with_reducible exact n62 _ | with_reducible exact l62 ‹_ ≤ 400› (by decide) | with_reducible exact l62 ‹_ ≤ 100› (by decide) | omega)).2; omega)).le (show 1 ≤ 2 by decide), ?_⟩
        refine ArA.cons <| EvA.call 10 rfl (H.defs 51 _ dZmul.2).at <| ArA.cons <| JdW.frz <| EvA.list <| ArA.cons <| EvA.bin <| EvA.cint <| EvA.sub <| EvA.name 1 rfl rfl <| EvA.bin <| EvA.name 4 rfl rfl <| EvA.cint <| OpA.sub <| SubA.at i' (.inl rfl) ek2 (getZ (gp (by first | with_reducible assumption | with_reducible exact Nat.le_trans ‹_ ≤ 400› (by decide) | with_reducible exact Nat.le_trans ‹_ ≤ 100› (by decide) | with_reducible exact Int.natCast_nonneg _ | with_reducible exact n62 _ | with_reducible exact l62 ‹_ ≤ 400› (by decide) | with_reducible exact l62 ‹_ ≤ 100› (by decide) | omega))) (by first | with_reducible exact lz ‹_ ≤ 400› (by decide) | with_reducible exact lz ‹_ ≤ 100› (by decide) | with_reducible exact lz ‹_ ≤ 50› (by decide) | with_reducible exact lz62 ‹_ ≤ 400› (by decide) | with_reducible exact lz62 ‹_ ≤ 100› (by decide) | with_reducible exact lz62 ‹_ ≤ 50› (by decide) | (rw [List.length_map]; omega)) <| OpA.sub <| ArA.cons <| EvA.cint <| ArA.nil ⟨_, rfl, by simp [sizeLine], fun l => ⟨l, _, [], _, rfl, rfl, ?_⟩⟩
        refine ArA.cons <| EvA.sub <| EvA.name 5 rfl rfl <| EvA.un <| EvA.cint <| Op1.neg <| SubA.lst (.inr ⟨lt, rfl, .tail _ (.head _)⟩) (by rw [encZs_len]; simp; omega) (by rw [encZs_len]; exact seqIndex_last2) (encZs_get _ (by simp)) ?_
        refine ArA.nil ⟨_, _, rfl, (zmul_spec H (BdZ.two (bpd i') h1) (hT i' (by first | with_reducible assumption | with_reducible exact Nat.le_trans ‹_ ≤ 400› (by decide) | with_reducible exact Nat.le_trans ‹_ ≤ 100› (by decide) | with_reducible exact Int.natCast_nonneg _ | with_reducible exact n62 _ | with_reducible exact l62 ‹_ ≤ 400› (by decide) | with_reducible exact l62 ‹_ ≤ 100› (by decide) | omega)).1 (by first | with_reducible assumption | with_reducible exact Nat.le_trans ‹_ ≤ 400› (by decide) | with_reducible exact Nat.le_trans ‹_ ≤ 100› (by decide) | with_reducible exact Int.natCast_nonneg _ | with_reducible exact n62 _ | with_reducible exact l62 ‹_ ≤ 400› (by decide) | with_reducible exact l62 ‹_ ≤ 100› (by decide) | omega) (by simp) (by have := (hT i' (by first | with_reducible assumption | with_reducible exact Nat.le_trans ‹_ ≤ 400› (by decide) | with_reducible exact Nat.le_trans ‹_ ≤ 100› (by decide) | with_reducible exact Int.natCast_nonneg _ | with_reducible exact n62 _ | with_reducible exact l62 ‹_ ≤ 400› (by decide) | with_reducible exact l62 ‹_ ≤ 100› (by decide) | omega)).2; omega)).le (show 1 ≤ 2 by decide), ?_⟩
        refine ArA.nil ⟨_, _, rfl, zadd_spec H (by first | with_reducible assumption | with_reducible exact Nat.le_trans ‹_ ≤ 400› (by decide) | with_reducible exact Nat.le_trans ‹_ ≤ 100› (by decide) | with_reducible exact Int.natCast_nonneg _ | with_reducible exact n62 _ | with_reducible exact l62 ‹_ ≤ 400› (by decide) | with_reducible exact l62 ‹_ ≤ 100› (by decide) | omega) (by first | with_reducible assumption | with_reducible exact Nat.le_trans ‹_ ≤ 400› (by decide) | with_reducible exact Nat.le_trans ‹_ ≤ 100› (by decide) | with_reducible exact Int.natCast_nonneg _ | with_reducible exact n62 _ | with_reducible exact l62 ‹_ ≤ 400› (by decide) | with_reducible exact l62 ‹_ ≤ 100› (by decide) | omega), ⟨_, [(lb, encZs (convBot nums places) (i' + 2))], _, _, rfl, rfl, ?_, ?_⟩⟩
        · rw [encZs_len]; exact Nat.le_trans (show _ ≤ 100 by simp; omega) (by decide)
        · refine ExA.nil ⟨_, rfl, ?_⟩
          have e := encZs_succ (convTop nums places) (i' + 2)
          show _ = [(lb, encZs (convBot nums places) (i' + 2)), (lt, encZs (convTop nums places) (i' + 2 + 1))]
          rw [e]; rfl
      | 1, hw =>
        cases hw
        refine AgA.name 5 rfl (.inl rfl) ?_
        refine ExA.cons' <| StA.append 5 rfl rfl (.head _) <| EvA.call 8 rfl (H.defs 47 _ dZadd.2).at <| ArA.cons <| EvA.call 9 rfl (H.defs 50 _ dZscale.2).at <| ArA.cons <| EvA.sub <| EvA.name 5 rfl rfl <| EvA.un <| EvA.cint <| Op1.neg <| SubA.last (.inr ⟨lb, rfl, .head _⟩) encZs_last (by rw [encZs_len]; simp; omega) <| ArA.cons <| EvA.sub <| EvA.name 0 rfl rfl <| EvA.name 4 rfl rfl <| SubA.at (i' + 1) (.inl rfl) rfl (getZ (gn (by first | with_reducible assumption | with_reducible exact Nat.le_trans ‹_ ≤ 400› (by decide) | with_reducible exact Nat.le_trans ‹_ ≤ 100› (by decide) | with_reducible exact Int.natCast_nonneg _ | with_reducible exact n62 _ | with_reducible exact l62 ‹_ ≤ 400› (by decide) | with_reducible exact l62 ‹_ ≤ 100› (by decide) | omega))) (by first | with_reducible exact lz ‹_ ≤ 400› (by decide) | with_reducible exact lz ‹_ ≤ 100› (by decide) | with_reducible exact lz ‹_ ≤ 50› (by decide) | with_reducible exact lz62 ‹_ ≤ 400› (by decide) | with_reducible exact lz62 ‹_ ≤ 100› (by decide) | with_reducible exact lz62 ‹_ ≤ 50› (by decide) | (rw [List.length_map]; omega)) <| ArA.nil ⟨_, _, rfl, (zscale_spec H (hB (i' + 1) (by first | with_reducible assumption | with_reducible exact Nat.le_trans ‹_ ≤ 400› (by decide) | with_reducible exact Nat.le_trans ‹_ ≤ 100› (by decide) | with_reducible exact Int.natCast_nonneg _ | with_reducible exact n62 _ | with_reducible exact l62 ‹_ ≤ 400› (by decide) | with_reducible exact l62 ‹_ ≤ 100› (by decide) | omega)).1 (bnd (i' + 1)).2 (by first | with_reducible assumption | with_reducible exact Nat.le_trans ‹_ ≤ 400› (by decide) | with_reducible exact Nat.le_trans ‹_ ≤ 100› (by decide) | with_reducible exact Int.natCast_nonneg _ | with_reducible exact n62 _ | with_reducible exact l62 ‹_ ≤ 400› (by decide) | with_reducible exact l62 ‹_ ≤ 100› (by decide) | omega) (by have := (hB (i' + 1) (by first | with_reducible assumption | with_reducible exact Nat.le_trans ‹_ ≤ 400› (by decide) | with_reducible exact Nat.le_trans ‹_ ≤ 100› (by decide) | with_reducible exact Int.natCast_nonneg _ | with_reducible exact n62 _ | with_reducible exact l62 ‹_ ≤ 400› (by decide) | with_reducible exact l62 ‹_ ≤ 100› (by decide) | omega)).2; omega)).le (show 1 ≤ 2 by decide), ?_⟩
        refine ArA.cons <| EvA.call 10 rfl (H.defs 51 _ dZmul.2).at <| ArA.cons <| JdW.frz <| EvA.list <| ArA.cons <| EvA.bin <| EvA.cint <| EvA.sub <| EvA.name 1 rfl rfl <| EvA.bin <| EvA.name 4 rfl rfl <| EvA.cint <| OpA.sub <| SubA.at i' (.inl rfl) ek2 (getZ (gp (by first | with_reducible assumption | with_reducible exact Nat.le_trans ‹_ ≤ 400› (by decide) | with_reducible exact Nat.le_trans ‹_ ≤ 100› (by decide) | with_reducible exact Int.natCast_nonneg _ | with_reducible exact n62 _ | with_reducible exact l62 ‹_ ≤ 400› (by decide) | with_reducible exact l62 ‹_ ≤ 100› (by decide) | omega))) (by first | with_reducible exact lz ‹_ ≤ 400› (by decide) | with_reducible exact lz ‹_ ≤ 100› (by decide) | with_reducible exact lz ‹_ ≤ 50› (by decide) | with_reducible exact lz62 ‹_ ≤ 400› (by decide) | with_reducible exact lz62 ‹_ ≤ 100› (by decide) | with_reducible exact lz62 ‹_ ≤ 50› (by decide) | (rw [List.length_map]; omega)) <| OpA.sub <| ArA.cons <| EvA.cint <| ArA.nil ⟨_, rfl, by simp [sizeLine], fun l => ⟨l, _, [], _, rfl, rfl, ?_⟩⟩
        refine ArA.cons <| EvA.sub <| EvA.name 5 rfl rfl <| EvA.un <| EvA.cint <| Op1.neg <| SubA.lst (.inr ⟨lb, rfl, .head _⟩) (by rw [encZs_len]; simp; omega) (by rw [encZs_len]; exact seqIndex_last2) (encZs_get _ (by simp)) ?_
        refine ArA.nil ⟨_, _, rfl, (zmul_spec H (BdZ.two (bpd i') h1) (hB i' (by first | with_reducible assumption | with_reducible exact Nat.le_trans ‹_ ≤ 400› (by decide) | with_reducible exact Nat.le_trans ‹_ ≤ 100› (by decide) | with_reducible exact Int.natCast_nonneg _ | with_reducible exact n62 _ | with_reducible exact l62 ‹_ ≤ 400› (by decide) | with_reducible exact l62 ‹_ ≤ 100› (by decide) | omega)).1 (by first | with_reducible assumption | with_reducible exact Nat.le_trans ‹_ ≤ 400› (by decide) | with_reducible exact Nat.le_trans ‹_ ≤ 100› (by decide) | with_reducible exact Int.natCast_nonneg _ | with_reducible exact n62 _ | with_reducible exact l62 ‹_ ≤ 400› (by decide) | with_reducible exact l62 ‹_ ≤ 100› (by decide) | omega) (by simp) (by have := (hB i' (by first | with_reducible assumption | with_reducible exact Nat.le_trans ‹_ ≤ 400› (by decide) | with_reducible exact Nat.le_trans ‹_ ≤ 100› (by decide) | with_reducible exact Int.natCast_nonneg _ | with_reducible exact n62 _ | with_reducible exact l62 ‹_ ≤ 400› (by decide) | with_reducible exact l62 ‹_ ≤ 100› (by decide) | omega)).2; omega)).le (show 1 ≤ 2 by decide), ?_⟩
        refine ArA.nil ⟨_, _, rfl, zadd_spec H (by first | with_reducible assumption | with_reducible exact Nat.le_trans ‹_ ≤ 400› (by decide) | with_reducible exact Nat.le_trans ‹_ ≤ 100› (by decide) | with_reducible exact Int.natCast_nonneg _ | with_reducible exact n62 _ | with_reducible exact l62 ‹_ ≤ 400› (by decide) | with_reducible exact l62 ‹_ ≤ 100› (by decide) | omega) (by first | with_reducible assumption | with_reducible exact Nat.le_trans ‹_ ≤ 400› (by decide) | with_reducible exact Nat.le_trans ‹_ ≤ 100› (by decide) | with_reducible exact Int.natCast_nonneg _ | with_reducible exact n62 _ | with_reducible exact l62 ‹_ ≤ 400› (by decide) | with_reducible exact l62 ‹_ ≤ 100› (by decide) | omega), ⟨_, [], _, _, rfl, rfl, ?_, ?_⟩⟩
        · rw [encZs_len]; exact Nat.le_trans (show _ ≤ 100 by simp; omega) (by decide)
        · refine ExA.nil ⟨_, rfl, ?_⟩
          have e := encZs_succ (convBot nums places) (i' + 2)
          show _ = [(lb, encZs (convBot nums places) (i' + 2 + 1)), (lt, encZs (convTop nums places) (i' + 2 + 1))]
          rw [e]; rfl
      | j + 2, hw => simp at hw
    · rintro σ μ ⟨o5, rfl, rfl⟩
      exact ExA.nil ⟨_, _, rfl, rfl⟩
  · rintro σ μ ⟨o4, o5, rfl, rfl⟩
    rw [List.length_map, List.length_range]
    have e1 : ∀ S : Nat → Z, (encZs S (nums.length - 1 + 2)).drop 1 = encZs (fun i => S (i + 1)) nums.length := by
      intro S
      have e : nums.length - 1 + 2 = nums.length + 1 := by omega
      rw [e]
      unfold encZs
      rw [List.range_succ_eq_map]
      simp [Function.comp]
    refine ExA.cons' <| StA.ret <| EvA.tuple <| ArA.cons <| JdW.frz <| EvA.slice <| EvA.name 2 rfl rfl <| PtA.yes <| EvA.cint ⟨_, rfl, PtA.no ⟨_, .inr ⟨lt, rfl, .tail _ (.head _)⟩, by rw [encZs_len]; exact Nat.le_trans (show _ ≤ 100 by omega) (by decide), fun l => ⟨l, _, [], _, rfl, rfl, ?_⟩⟩⟩
    refine ArA.cons <| JdW.frz <| EvA.slice <| EvA.name 3 rfl rfl <| PtA.yes <| EvA.cint ⟨_, rfl, PtA.no ⟨_, .inr ⟨lb, rfl, .head _⟩, by rw [encZs_len]; exact Nat.le_trans (show _ ≤ 100 by omega) (by decide), fun l => ⟨l, _, [], _, rfl, rfl, ?_⟩⟩⟩
    refine ArA.nil ⟨_, rfl, by simp [sizeLine], .inl ?_⟩
    have p1 : ∀ xs : List PyData, pick xs (some 1) none = xs.drop 1 := fun xs => pick_from 1
    rw [p1, p1, e1, e1]
end Mine
end
section
open PySem PySem.W PySem.Calls PyProof.Rows
set_option linter.unusedVariables false
namespace Mine
set_option maxRecDepth 100000

theorem gZ {a : Z} {i : Nat} (h : i < a.length) : a[i]? = some (a.getD i 0) := by simp [List.getD_eq_getElem?_getD, h]
theorem gP {a : P} {i : Nat} (h : i < a.length) : a[i]? = some (a.getD i 0) := by simp [List.getD_eq_getElem?_getD, h]

inductive JWithin (nums places : Z) (N : Nat) (F : Nat → Fr2) (i : Nat) (σ : Sg) (μ : Mu) : Prop
  | mk (o3 : Option WV) (o4 : Option WV) (h1 : σ = [some (.val (encZ nums)), some (.val (encZ places)), some (.val (encF (F (N - i)))), o3, o4, none, none, none, none, none, none, none]) (h2 : μ = [])
set_option maxHeartbeats 2000000 in
theorem within_spec {C : Cx} (H : Facts C) {nums places : Z} {N : Nat} (hN : nums.length = N + 1) (hN2 : N ≤ 50) (hp : N ≤ places.length) (hp2 : places.length ≤ 100) (F G : Nat → Fr2)
    (h0 : F N = fnumber (nums.getD N 0 : Int))
    (hd : ∀ k, k < N → FnSpec C 9 (Str.ofString "fdiv") [encF (fpoly [((-(places.getD k 0) : Int) : Rat), 1]), encF (F (k + 1))] (.val (encF (G k))))
    (ha : ∀ k, k < N → FnSpec C 9 (Str.ofString "fadd") [encF (fnumber ((nums.getD k 0 : Int) : Rat)), encF (G k)] (.val (encF (F k)))) :
    FnSpec C 10 (Str.ofString "_law_within") [encZ nums, encZ places] (.val (encF (F 0))) := by
  refine FnSpec.intro (H.defs 56 _ dWithin.2) (by decide +kernel) (by decide +kernel) (by rfl) ?_ ?_
  · exact fun pm cd doc vs h => len2 h rfl fun _ _ => rfl
  intro env ok
  show ExA C _ dWithin.1.body [some (.val (encZ nums)), some (.val (encZ places)), none, none, none, none, none, none, none, none, none, none] [] _
  have hne : nums ≠ [] := fun e => by rw [e] at hN; simp at hN
  have hlast : (nums.map PyData.int).getLast? = some (.int (nums.getD N 0)) := by
    rw [List.getLast?_eq_getElem?, List.length_map, hN]
    exact getZ (gZ (by first | with_reducible assumption | with_reducible exact Nat.le_trans ‹_ ≤ 400› (by decide) | with_reducible exact Nat.le_trans ‹_ ≤ 100› (by decide) | with_reducible exact Int.natCast_nonneg _ | with_reducible exact n62 _ | with_reducible exact l62 ‹_ ≤ 400› (by decide) | with_reducible exact l62 ‹_ ≤ 100› (by decide) | omega))
  refine ExA.cons <| StA.assignN 2 rfl (.inl rfl) <| EvA.call 5 rfl (H.defs 33 _ dFnumber.2).at <| ArA.cons <| EvA.tuple <| ArA.cons <| EvA.sub <| EvA.name 0 rfl rfl <| EvA.un <| EvA.cint <| Op1.neg <| SubA.last (.inl rfl) hlast (by first | with_reducible exact lz ‹_ ≤ 400› (by decide) | with_reducible exact lz ‹_ ≤ 100› (by decide) | with_reducible exact lz ‹_ ≤ 50› (by decide) | with_reducible exact lz62 ‹_ ≤ 400› (by decide) | with_reducible exact lz62 ‹_ ≤ 100› (by decide) | with_reducible exact lz62 ‹_ ≤ 50› (by decide) | (rw [List.length_map]; omega)) <| ArA.cons <| EvA.cint <| ArA.nil ⟨_, rfl, by simp [sizeLine], ArA.nil ⟨_, .val _, rfl, (fnumber_spec H ((nums.getD N 0 : Int) : Rat)).le (show 1 ≤ 9 by decide), ⟨rfl, ?_⟩⟩⟩
  rw [← h0]
  refine ExA.cons <| StA.for <| ItA.down 6 rfl H.b_range.1 H.b_range.2 <| EvA.bin <| EvA.callB 7 rfl H.b_len.1 H.b_len.2 <| ArA.cons <| EvA.name 0 rfl rfl <| ArA.nil <| ClA.len_list (.inl rfl) (by first | with_reducible exact lz ‹_ ≤ 400› (by decide) | with_reducible exact lz ‹_ ≤ 100› (by decide) | with_reducible exact lz ‹_ ≤ 50› (by decide) | with_reducible exact lz62 ‹_ ≤ 400› (by decide) | with_reducible exact lz62 ‹_ ≤ 100› (by decide) | with_reducible exact lz62 ‹_ ≤ 50› (by decide) | (rw [List.length_map]; omega)) <| EvA.cint <| OpA.sub <| EvA.un <| EvA.cint <| Op1.neg <| EvA.un <| EvA.cint <| Op1.neg ⟨_, rfl, rfl, rfl, by rw [List.length_map]; omega, by rw [List.length_map]; omega, ?_⟩
  have er : (((List.map PyData.int nums).length : Int) - 2 + 1).toNat = N := by rw [List.length_map]; omega
  rw [er]
  refine ⟨(JWithin nums places N F), ⟨none, none, rfl, rfl⟩, ?_, ?_⟩
  · rintro i w σ μ hw ⟨o3, o4, rfl, rfl⟩
    obtain ⟨i', ei, hin, rfl⟩ := rng_get hw
    subst ei
    replace hin : i' < N := hin
    have ek : ((List.map PyData.int nums).length : Int) - 2 - (i' : Int) = ((N - i' - 1 : Nat) : Int) := by rw [List.length_map]; omega
    have ek2 : N - i' = (N - i' - 1) + 1 := by omega
    have ek3 : N - (i' + 1) = N - i' - 1 := by omega
    rw [ek]
    generalize hk : N - i' - 1 = k at *
    have hkN : k < N := by omega
    refine AgA.name 3 rfl (.inl rfl) ?_
    refine ExA.cons' <| StA.assignN 4 rfl (.inl rfl) <| EvA.call 8 rfl (H.defs 32 _ dFpoly.2).at <| ArA.cons <| JdW.frz <| EvA.list <| ArA.cons <| EvA.tuple <| ArA.cons <| EvA.bin <| EvA.cint <| EvA.sub <| EvA.name 1 rfl rfl <| EvA.name 3 rfl rfl <| SubA.at k (.inl rfl) rfl (getZ (gZ (by first | with_reducible assumption | with_reducible exact Nat.le_trans ‹_ ≤ 400› (by decide) | with_reducible exact Nat.le_trans ‹_ ≤ 100› (by decide) | with_reducible exact Int.natCast_nonneg _ | with_reducible exact n62 _ | with_reducible exact l62 ‹_ ≤ 400› (by decide) | with_reducible exact l62 ‹_ ≤ 100› (by decide) | omega))) (by first | with_reducible exact lz ‹_ ≤ 400› (by decide) | with_reducible exact lz ‹_ ≤ 100› (by decide) | with_reducible exact lz ‹_ ≤ 50› (by decide) | with_reducible exact lz62 ‹_ ≤ 400› (by decide) | with_reducible exact lz62 ‹_ ≤ 100› (by decide) | with_reducible exact lz62 ‹_ ≤ 50› (by decide) | (rw [List.length_map]; omega)) <| OpA.sub <| ArA.cons <| EvA.cint <| ArA.nil ⟨_, rfl, by simp [sizeLine], ArA.cons <| EvA.glob 9 rfl H.g_R1 <| ArA.nil ⟨_, rfl, by simp [sizeLine], fun l => ⟨l, _, [], _, rfl, rfl, ?_⟩⟩⟩
    have e1 : PyData.list [.tuple [.int (0 - places.getD k 0), .int 1], .tuple [.int 1, .int 1]] = encP [((-(places.getD k 0) : Int) : Rat), 1] := by
      have e : (0 - places.getD k 0) = (-(places.getD k 0) : Int) := by omega
      rw [e]; rfl
    rw [e1]
    refine ArA.nil ⟨_, .val _, rfl, (fpoly_spec H (by simp)).le (show 1 ≤ 9 by decide), ?_⟩
    refine ExA.cons' <| StA.assignN 2 rfl (.inl rfl) <| EvA.call 10 rfl (H.defs 34 _ dFadd.2).at <| ArA.cons <| EvA.call 5 rfl (H.defs 33 _ dFnumber.2).at <| ArA.cons <| EvA.tuple <| ArA.cons <| EvA.sub <| EvA.name 0 rfl rfl <| EvA.name 3 rfl rfl <| SubA.at k (.inl rfl) rfl (getZ (gZ (by first | with_reducible assumption | with_reducible exact Nat.le_trans ‹_ ≤ 400› (by decide) | with_reducible exact Nat.le_trans ‹_ ≤ 100› (by decide) | with_reducible exact Int.natCast_nonneg _ | with_reducible exact n62 _ | with_reducible exact l62 ‹_ ≤ 400› (by decide) | with_reducible exact l62 ‹_ ≤ 100› (by decide) | omega))) (by first | with_reducible exact lz ‹_ ≤ 400› (by decide) | with_reducible exact lz ‹_ ≤ 100› (by decide) | with_reducible exact lz ‹_ ≤ 50› (by decide) | with_reducible exact lz62 ‹_ ≤ 400› (by decide) | with_reducible exact lz62 ‹_ ≤ 100› (by decide) | with_reducible exact lz62 ‹_ ≤ 50› (by decide) | (rw [List.length_map]; omega)) <| ArA.cons <| EvA.cint <| ArA.nil ⟨_, rfl, by simp [sizeLine], ArA.nil ⟨_, .val _, rfl, (fnumber_spec H ((nums.getD k 0 : Int) : Rat)).le (show 1 ≤ 9 by decide), ?_⟩⟩
    rw [ek2]
    refine ArA.cons <| EvA.call 11 rfl (H.defs 35 _ dFdiv.2).at <| ArA.cons <| EvA.name 4 rfl rfl <| ArA.cons <| EvA.name 2 rfl rfl <| ArA.nil ⟨_, _, rfl, hd k hkN, ?_⟩
    refine ArA.nil ⟨_, _, rfl, ha k hkN, ExA.nil ⟨some (.val (.int k)), some (.val (encF (fpoly [((-(places.getD k 0) : Int) : Rat), 1]))), ?_, rfl⟩⟩
    first
    | rfl
    | (have ek4 : N - (i' + 1) = k := by omega
       rw [ek4]; rfl)
  · rintro σ μ ⟨o3, o4, rfl, rfl⟩
    rw [List.length_map, List.length_range]
    refine ⟨rfl, ?_⟩
    refine ExA.cons' <| StA.ret <| EvA.name 2 rfl rfl (.inl ?_)
    rw [Nat.sub_self]

/-- the row after some turns: items before the turn are settled -/
noncomputable def backRow (T : Nat → Nat → Rat) (N t : Nat) : P := (List.range N).map fun s => T (min t s) s
theorem backRow_length (T : Nat → Nat → Rat) (N t : Nat) : (backRow T N t).length = N := by simp [backRow]
theorem backRow_get (T : Nat → Nat → Rat) {N t s : Nat} (h : s < N) : (backRow T N t)[s]? = some (T (min t s) s) := by simp [backRow, h]

inductive JBack (values : P) (places : Z) (m N : Nat) (T : Nat → Nat → Rat) (lr lf : Addr) (t : Nat) (σ : Sg) (μ : Mu) : Prop
  | mk (o5 : Option WV) (o6 : Option WV) (h1 : σ = [some (.val (encP values)), some (.val (encZ places)), some (.val (.int m)), some (.adr lr), some (.adr lf), o5, o6, none, none, none, none, none]) (h2 : μ = [(lf, ((List.range t).map fun t => T t t).map encQ), (lr, (backRow T N t).map encQ)])
inductive JBackRow (values : P) (places : Z) (m N : Nat) (T : Nat → Nat → Rat) (lr lf : Addr) (t' : Nat) (j : Nat) (σ : Sg) (μ : Mu) : Prop
  | mk (o6 : Option WV) (row : P) (h1 : σ = [some (.val (encP values)), some (.val (encZ places)), some (.val (.int m)), some (.adr lr), some (.adr lf), some (.val (.int t')), o6, none, none, none, none, none]) (h2 : μ = [(lf, ((List.range (t' + 1)).map fun t => T t t).map encQ), (lr, row.map encQ)]) (h3 : row.length = N) (h4 : ∀ s, s < N → row[s]? = some (if s < t' + 1 + j then T (min (t' + 1) s) s else T (min t' s) s))
set_option maxHeartbeats 2000000 in
theorem back_spec {C : Cx} (H : Facts C) {values : P} {places : Z} {N m n : Nat} (hN : values.length = N) (hN2 : N ≤ 50) (hp : places.length = N) (hm : m ≤ N) (T : Nat → Nat → Rat) (h0 : ∀ s, s < N → values.getD s 0 = T 0 s)
    (hT : ∀ t s, t < m → t < s → s < N → T t s ≠ T t t ∧ T (t + 1) s = (((places.getD s 0 - places.getD t 0 : Int)) : Rat) / (T t s - T t t)) (hb : ∀ t s, t ≤ m → t ≤ s → s < N → Bd n (T t s)) (bp : ∀ t s, Bd n ((((places.getD s 0 - places.getD t 0 : Int)) : Rat))) (hL : n ≤ 1000000) :
    FnSpec C 4 (Str.ofString "_law_back") [encP values, .list (places.map .int), .int m] (.val (encP ((List.range m).map (fun t => T t t) ++ (backRow T N m).drop m))) := by
  have hLim : Lim = 67108864 := rfl
  refine FnSpec.intro (H.defs 57 _ dBack.2) (by decide +kernel) (by decide +kernel) (by rfl) ?_ ?_
  · exact fun pm cd doc vs h => len3 h rfl fun _ _ _ => rfl
  intro env ok
  show ExA C _ dBack.1.body [some (.val (encP values)), some (.val (encZ places)), some (.val (.int m)), none, none, none, none, none, none, none, none, none] [] _
  have hv : values = backRow T N 0 := by
    apply List.ext_getElem?
    intro i
    by_cases hi : i < N
    · rw [gP (by first | with_reducible assumption | with_reducible exact Nat.le_trans ‹_ ≤ 400› (by decide) | with_reducible exact Nat.le_trans ‹_ ≤ 100› (by decide) | with_reducible exact Int.natCast_nonneg _ | with_reducible exact n62 _ | with_reducible exact l62 ‹_ ≤ 400› (by decide) | with_reducible exact l62 ‹_ ≤ 100› (by decide) | omega), h0 i hi, backRow_get T hi]; simp
    · rw [List.getElem?_eq_none (by first | with_reducible assumption | with_reducible exact Nat.le_trans ‹_ ≤ 400› (by decide) | with_reducible exact Nat.le_trans ‹_ ≤ 100› (by decide) | with_reducible exact Int.natCast_nonneg _ | with_reducible exact n62 _ | with_reducible exact l62 ‹_ ≤ 400› (by decide) | with_reducible exact l62 ‹_ ≤ 100› (by decide) | omega), List.getElem?_eq_none (by rw [backRow_length]; omega)]
  refine ExA.cons' <| StA.assignW 3 4 rfl rfl (EvA.two <| ArA.cons <| EvA.callT 7 rfl H.b_list.1 H.b_list.2 <| ArA.cons <| EvA.name 0 rfl rfl <| ArA.nil <| ClA.list (.inl rfl) (by first | with_reducible exact lzs ‹_ ≤ 400› (by decide) | with_reducible exact lzs ‹_ ≤ 100› (by decide) | with_reducible exact lzs ‹_ ≤ 50› (by decide) | (simp [sizeLine]; omega)) fun lr => ArA.cons <| EvA.list <| ArA.nil ⟨_, rfl, by simp, fun lf => ArA.nil ⟨_, _, rfl, _, _, rfl, ?_⟩⟩) (swapped_yes (i := 3) (j := 4) rfl rfl (by decide) rfl rfl rfl rfl)
  refine ExA.cons <| StA.for <| ItA.range1 8 rfl H.b_range.1 H.b_range.2 <| EvA.name 2 rfl rfl ⟨_, rfl, by omega, by omega, ?_⟩
  refine ⟨(JBack values places m N T lr lf), ⟨none, none, rfl, by rw [← hv]; rfl⟩, ?_, ?_⟩
  · rintro t w σ μ hw ⟨o5, o6, rfl, rfl⟩
    obtain ⟨t', et, htm, rfl⟩ := rng_get hw
    subst et
    replace htm : t' < m := htm
    have gself : (backRow T N t')[t']? = some (T t' t') := by rw [backRow_get T (by first | with_reducible assumption | with_reducible exact Nat.le_trans ‹_ ≤ 400› (by decide) | with_reducible exact Nat.le_trans ‹_ ≤ 100› (by decide) | with_reducible exact Int.natCast_nonneg _ | with_reducible exact n62 _ | with_reducible exact l62 ‹_ ≤ 400› (by decide) | with_reducible exact l62 ‹_ ≤ 100› (by decide) | omega), Nat.min_self]
    refine AgA.name 5 rfl (.inl rfl) ?_
    refine ExA.cons' <| StA.append 4 rfl rfl (.head _) <| EvA.sub <| EvA.name 3 rfl rfl <| EvA.name 5 rfl rfl <| SubA.at t' (.inr ⟨lr, rfl, .tail _ (.head _)⟩) rfl (getQ gself) (by rw [List.length_map, backRow_length]; omega) ⟨_, [], _, _, rfl, rfl, by simp [sizeLine]; omega, ?_⟩
    have eapp : ((List.range t').map fun t => T t t).map encQ ++ [encQ (T t' t')] = ((List.range (t' + 1)).map fun t => T t t).map encQ := by simp [List.range_succ]
    rw [eapp]
    refine ExA.cons' <| StA.for <| ItA.range2 8 rfl H.b_range.1 H.b_range.2 <| EvA.bin <| EvA.name 5 rfl rfl <| EvA.cint <| OpA.add <| EvA.callB 9 rfl H.b_len.1 H.b_len.2 <| ArA.cons <| EvA.name 3 rfl rfl <| ArA.nil <| ClA.len_list (.inr ⟨lr, rfl, .tail _ (.head _)⟩) (by rw [List.length_map, backRow_length]; omega) ⟨_, _, rfl, rfl, by omega, by omega, by rw [List.length_map, backRow_length]; omega, by rw [List.length_map, backRow_length]; omega, ?_⟩
    have er : (((List.map encQ (backRow T N t')).length : Int) - ((t' : Int) + 1)).toNat = N - (t' + 1) := tn_sub (by rw [List.length_map, backRow_length]) rfl
    rw [er]
    refine ⟨(JBackRow values places m N T lr lf t'), ⟨_, backRow T N t', rfl, rfl, backRow_length T N t', fun s hs => ?_⟩, ?_, ?_⟩
    · rw [backRow_get T hs]
      split
      · congr 2; omega
      · rfl
    · rintro j w σ μ hw ⟨o6, row, rfl, rfl, hrl, hrow⟩
      obtain ⟨j', ej, hjn, rfl⟩ := rng_get hw
      subst ej
      replace hjn : j' < N - (t' + 1) := hjn
      have ek : (t' : Int) + 1 + (j' : Int) = ((t' + 1 + j' : Nat) : Int) := by omega
      rw [ek]
      generalize hs : t' + 1 + j' = s at *
      have hsN : s < N := by omega
      have hts : t' < s := by omega
      have g1 : row[s]? = some (T t' s) := by rw [hrow s hsN, if_neg (by first | with_reducible assumption | with_reducible exact Nat.le_trans ‹_ ≤ 400› (by decide) | with_reducible exact Nat.le_trans ‹_ ≤ 100› (by decide) | with_reducible exact Int.natCast_nonneg _ | with_reducible exact n62 _ | with_reducible exact l62 ‹_ ≤ 400› (by decide) | with_reducible exact l62 ‹_ ≤ 100› (by decide) | omega)]; congr 2; omega
      have g2 : row[t']? = some (T t' t') := by rw [hrow t' (by first | with_reducible assumption | with_reducible exact Nat.le_trans ‹_ ≤ 400› (by decide) | with_reducible exact Nat.le_trans ‹_ ≤ 100› (by decide) | with_reducible exact Int.natCast_nonneg _ | with_reducible exact n62 _ | with_reducible exact l62 ‹_ ≤ 400› (by decide) | with_reducible exact l62 ‹_ ≤ 100› (by decide) | omega), if_pos (by first | with_reducible assumption | with_reducible exact Nat.le_trans ‹_ ≤ 400› (by decide) | with_reducible exact Nat.le_trans ‹_ ≤ 100› (by decide) | with_reducible exact Int.natCast_nonneg _ | with_reducible exact n62 _ | with_reducible exact l62 ‹_ ≤ 400› (by decide) | with_reducible exact l62 ‹_ ≤ 100› (by decide) | omega)]; congr 2; omega
      obtain ⟨q1, q2⟩ := hT t' s htm hts hsN
      have b1 := hb t' s (by first | with_reducible assumption | with_reducible exact Nat.le_trans ‹_ ≤ 400› (by decide) | with_reducible exact Nat.le_trans ‹_ ≤ 100› (by decide) | with_reducible exact Int.natCast_nonneg _ | with_reducible exact n62 _ | with_reducible exact l62 ‹_ ≤ 400› (by decide) | with_reducible exact l62 ‹_ ≤ 100› (by decide) | omega) (by first | with_reducible assumption | with_reducible exact Nat.le_trans ‹_ ≤ 400› (by decide) | with_reducible exact Nat.le_trans ‹_ ≤ 100› (by decide) | with_reducible exact Int.natCast_nonneg _ | with_reducible exact n62 _ | with_reducible exact l62 ‹_ ≤ 400› (by decide) | with_reducible exact l62 ‹_ ≤ 100› (by decide) | omega) hsN
      have b2 := hb t' t' (by first | with_reducible assumption | with_reducible exact Nat.le_trans ‹_ ≤ 400› (by decide) | with_reducible exact Nat.le_trans ‹_ ≤ 100› (by decide) | with_reducible exact Int.natCast_nonneg _ | with_reducible exact n62 _ | with_reducible exact l62 ‹_ ≤ 400› (by decide) | with_reducible exact l62 ‹_ ≤ 100› (by decide) | omega) (by first | with_reducible assumption | with_reducible exact Nat.le_trans ‹_ ≤ 400› (by decide) | with_reducible exact Nat.le_trans ‹_ ≤ 100› (by decide) | with_reducible exact Int.natCast_nonneg _ | with_reducible exact n62 _ | with_reducible exact l62 ‹_ ≤ 400› (by decide) | with_reducible exact l62 ‹_ ≤ 100› (by decide) | omega) (by first | with_reducible assumption | with_reducible exact Nat.le_trans ‹_ ≤ 400› (by decide) | with_reducible exact Nat.le_trans ‹_ ≤ 100› (by decide) | with_reducible exact Int.natCast_nonneg _ | with_reducible exact n62 _ | with_reducible exact l62 ‹_ ≤ 400› (by decide) | with_reducible exact l62 ‹_ ≤ 100› (by decide) | omega)
      refine AgA.name 6 rfl (.inl rfl) ?_
      refine ExA.cons' <| StA.assignS <| EvA.call 10 rfl (H.defs 11 _ dRdiv.2).at <| ArA.cons <| EvA.tuple <| ArA.cons <| EvA.bin <| EvA.sub <| EvA.name 1 rfl rfl <| EvA.name 6 rfl rfl <| SubA.at s (.inl rfl) rfl (getZ (gZ (by first | with_reducible assumption | with_reducible exact Nat.le_trans ‹_ ≤ 400› (by decide) | with_reducible exact Nat.le_trans ‹_ ≤ 100› (by decide) | with_reducible exact Int.natCast_nonneg _ | with_reducible exact n62 _ | with_reducible exact l62 ‹_ ≤ 400› (by decide) | with_reducible exact l62 ‹_ ≤ 100› (by decide) | omega))) (by first | with_reducible exact lz ‹_ ≤ 400› (by decide) | with_reducible exact lz ‹_ ≤ 100› (by decide) | with_reducible exact lz ‹_ ≤ 50› (by decide) | with_reducible exact lz62 ‹_ ≤ 400› (by decide) | with_reducible exact lz62 ‹_ ≤ 100› (by decide) | with_reducible exact lz62 ‹_ ≤ 50› (by decide) | (rw [List.length_map]; omega)) <| EvA.sub <| EvA.name 1 rfl rfl <| EvA.name 5 rfl rfl <| SubA.at t' (.inl rfl) rfl (getZ (gZ (by first | with_reducible assumption | with_reducible exact Nat.le_trans ‹_ ≤ 400› (by decide) | with_reducible exact Nat.le_trans ‹_ ≤ 100› (by decide) | with_reducible exact Int.natCast_nonneg _ | with_reducible exact n62 _ | with_reducible exact l62 ‹_ ≤ 400› (by decide) | with_reducible exact l62 ‹_ ≤ 100› (by decide) | omega))) (by first | with_reducible exact lz ‹_ ≤ 400› (by decide) | with_reducible exact lz ‹_ ≤ 100› (by decide) | with_reducible exact lz ‹_ ≤ 50› (by decide) | with_reducible exact lz62 ‹_ ≤ 400› (by decide) | with_reducible exact lz62 ‹_ ≤ 100› (by decide) | with_reducible exact lz62 ‹_ ≤ 50› (by decide) | (rw [List.length_map]; omega)) <| OpA.sub <| ArA.cons <| EvA.cint <| ArA.nil ⟨_, rfl, by simp [sizeLine], ?_⟩
      refine ArA.cons <| EvA.call 11 rfl (H.defs 9 _ dRsub.2).at <| ArA.cons <| EvA.sub <| EvA.name 3 rfl rfl <| EvA.name 6 rfl rfl <| SubA.at s (.inr ⟨lr, rfl, .tail _ (.head _)⟩) rfl (getQ g1) (by first | with_reducible exact lz ‹_ ≤ 400› (by decide) | with_reducible exact lz ‹_ ≤ 100› (by decide) | with_reducible exact lz ‹_ ≤ 50› (by decide) | with_reducible exact lz62 ‹_ ≤ 400› (by decide) | with_reducible exact lz62 ‹_ ≤ 100› (by decide) | with_reducible exact lz62 ‹_ ≤ 50› (by decide) | (rw [List.length_map]; omega)) <| ArA.cons <| EvA.sub <| EvA.name 3 rfl rfl <| EvA.name 5 rfl rfl <| SubA.at t' (.inr ⟨lr, rfl, .tail _ (.head _)⟩) rfl (getQ g2) (by first | with_reducible exact lz ‹_ ≤ 400› (by decide) | with_reducible exact lz ‹_ ≤ 100› (by decide) | with_reducible exact lz ‹_ ≤ 50› (by decide) | with_reducible exact lz62 ‹_ ≤ 400› (by decide) | with_reducible exact lz62 ‹_ ≤ 100› (by decide) | with_reducible exact lz62 ‹_ ≤ 50› (by decide) | (rw [List.length_map]; omega)) <| ArA.nil ⟨_, _, rfl, rsub_spec H b1 b2 (by first | with_reducible assumption | with_reducible exact Nat.le_trans ‹_ ≤ 400› (by decide) | with_reducible exact Nat.le_trans ‹_ ≤ 100› (by decide) | with_reducible exact Int.natCast_nonneg _ | with_reducible exact n62 _ | with_reducible exact l62 ‹_ ≤ 400› (by decide) | with_reducible exact l62 ‹_ ≤ 100› (by decide) | omega), ?_⟩
      have hne : T t' s - T t' t' ≠ 0 := fun e => q1 (by grind)
      refine ArA.nil ⟨_, .val _, rfl, rdiv_spec H (bp t' s) (b1.sub b2) (by first | with_reducible assumption | with_reducible exact Nat.le_trans ‹_ ≤ 400› (by decide) | with_reducible exact Nat.le_trans ‹_ ≤ 100› (by decide) | with_reducible exact Int.natCast_nonneg _ | with_reducible exact n62 _ | with_reducible exact l62 ‹_ ≤ 400› (by decide) | with_reducible exact l62 ‹_ ≤ 100› (by decide) | omega) hne, ⟨_, rfl, EvA.name 3 rfl rfl <| EvA.name 6 rfl rfl ⟨lr, [_], [], _, _, s, rfl, rfl, rfl, by omega, by rw [List.length_map]; omega, seqIndex_nat (by first | with_reducible exact lz ‹_ ≤ 400› (by decide) | with_reducible exact lz ‹_ ≤ 100› (by decide) | with_reducible exact lz ‹_ ≤ 50› (by decide) | with_reducible exact lz62 ‹_ ≤ 400› (by decide) | with_reducible exact lz62 ‹_ ≤ 100› (by decide) | with_reducible exact lz62 ‹_ ≤ 50› (by decide) | (rw [List.length_map]; omega)), ?_⟩⟩⟩
      rw [← q2, set_map_encQ]
      refine ExA.nil ⟨_, row.set s (T (t' + 1) s), rfl, rfl, by simpa using hrl, fun u hu => ?_⟩
      rw [List.getElem?_set]
      by_cases hus : s = u
      · subst hus
        rw [if_pos rfl, if_pos (by first | with_reducible assumption | with_reducible exact Nat.le_trans ‹_ ≤ 400› (by decide) | with_reducible exact Nat.le_trans ‹_ ≤ 100› (by decide) | with_reducible exact Int.natCast_nonneg _ | with_reducible exact n62 _ | with_reducible exact l62 ‹_ ≤ 400› (by decide) | with_reducible exact l62 ‹_ ≤ 100› (by decide) | omega), if_pos (by first | with_reducible assumption | with_reducible exact Nat.le_trans ‹_ ≤ 400› (by decide) | with_reducible exact Nat.le_trans ‹_ ≤ 100› (by decide) | with_reducible exact Int.natCast_nonneg _ | with_reducible exact n62 _ | with_reducible exact l62 ‹_ ≤ 400› (by decide) | with_reducible exact l62 ‹_ ≤ 100› (by decide) | omega)]; congr 2; omega
      · rw [if_neg hus, hrow u hu]
        by_cases hlt : u < s
        · rw [if_pos hlt, if_pos (by first | with_reducible assumption | with_reducible exact Nat.le_trans ‹_ ≤ 400› (by decide) | with_reducible exact Nat.le_trans ‹_ ≤ 100› (by decide) | with_reducible exact Int.natCast_nonneg _ | with_reducible exact n62 _ | with_reducible exact l62 ‹_ ≤ 400› (by decide) | with_reducible exact l62 ‹_ ≤ 100› (by decide) | omega)]
        · rw [if_neg hlt, if_neg (by first | with_reducible assumption | with_reducible exact Nat.le_trans ‹_ ≤ 400› (by decide) | with_reducible exact Nat.le_trans ‹_ ≤ 100› (by decide) | with_reducible exact Int.natCast_nonneg _ | with_reducible exact n62 _ | with_reducible exact l62 ‹_ ≤ 400› (by decide) | with_reducible exact l62 ‹_ ≤ 100› (by decide) | omega)]
    · rintro σ μ ⟨o6, row, rfl, rfl, hrl, hrow⟩
      rw [List.length_map, List.length_range] at hrow
      have e : row = backRow T N (t' + 1) := by
        apply List.ext_getElem?
        intro u
        by_cases hu : u < N
        · rw [hrow u hu, if_pos (by first | with_reducible assumption | with_reducible exact Nat.le_trans ‹_ ≤ 400› (by decide) | with_reducible exact Nat.le_trans ‹_ ≤ 100› (by decide) | with_reducible exact Int.natCast_nonneg _ | with_reducible exact n62 _ | with_reducible exact l62 ‹_ ≤ 400› (by decide) | with_reducible exact l62 ‹_ ≤ 100› (by decide) | omega), backRow_get T hu]
        · rw [List.getElem?_eq_none (by first | with_reducible assumption | with_reducible exact Nat.le_trans ‹_ ≤ 400› (by decide) | with_reducible exact Nat.le_trans ‹_ ≤ 100› (by decide) | with_reducible exact Int.natCast_nonneg _ | with_reducible exact n62 _ | with_reducible exact l62 ‹_ ≤ 400› (by decide) | with_reducible exact l62 ‹_ ≤ 100› (by decide) | omega), List.getElem?_eq_none (by rw [backRow_length]; omega)]
      rw [e]
      exact ExA.nil ⟨_, _, rfl, rfl⟩
  · rintro σ μ ⟨o5, o6, rfl, rfl⟩
    rw [List.length_map, List.length_range]
    have em : ((m : Nat) : Int).toNat = m := rfl
    rw [em]
    refine ⟨rfl, ?_⟩
    refine ExA.cons' <| StA.ret <| JdW.frz <| EvA.bin <| EvA.name 4 rfl rfl <| JdW.frz <| EvA.slice <| EvA.name 3 rfl rfl <| PtA.yes <| EvA.name 2 rfl rfl ⟨_, rfl, PtA.no ⟨_, .inr ⟨lr, rfl, .tail _ (.head _)⟩, by rw [List.length_map, backRow_length]; exact Nat.le_trans (show N ≤ 50 by omega) (by decide), fun l => ⟨l, _, [], _, rfl, rfl, ?_⟩⟩⟩
    rw [pick_from]
    refine OpA.addL (.inr ⟨lf, rfl, .head _⟩) (.inl rfl) (by simp [sizeLine, backRow]; omega) fun l => ⟨l, _, [], _, rfl, rfl, .inl ?_⟩
    rw [← List.map_drop, ← List.map_append]; rfl
end Mine
end
section
open PySem PySem.W PySem.Calls PyProof.Rows
set_option linter.unusedVariables false
namespace Mine
set_option maxRecDepth 100000

noncomputable def lineRow (x : Int) (v : Rat) (above below : Nat) : P :=
  ((List.range (above + 1)).map fun p => ((x ^ p : Int) : Rat)) ++ (List.range (below + 1)).map fun p => -(v * ((x ^ p : Int) : Rat))
noncomputable def linesM (values : P) (places : Z) (above below : Nat) : M := (List.range values.length).map fun i => lineRow (places.getD i 0) (values.getD i 0) above below

inductive JLines (values : P) (places : Z) (above below : Nat) (lf : Addr) (i : Nat) (σ : Sg) (μ : Mu) : Prop
  | mk (o5 : Option WV) (o6 : Option WV) (o7 : Option WV) (h1 : σ = [some (.val (encP values)), some (.val (encZ places)), some (.val (.int above)), some (.val (.int below)), some (.adr lf), o5, o6, o7, none, none]) (h2 : μ = [(lf, encRows ((List.range i).map fun i => lineRow (places.getD i 0) (values.getD i 0) above below))])
set_option maxHeartbeats 2000000 in
theorem lines_spec {C : Cx} (H : Facts C) {values : P} {places : Z} {above below n m : Nat} (hv : values.length ≤ 50) (hp : values.length ≤ places.length) (hp2 : places.length ≤ 100) (hab : below ≤ above) (ha : above ≤ 10)
    (bv : BdP n values) (bp : ∀ i, i < values.length → (places.getD i 0).natAbs < 2 ^ m) (h1 : 1 ≤ m) (hL : n + m * 10 + 2 ≤ 1000000) :
    FnSpec C 4 (Str.ofString "_law_lines") [encP values, encZ places, .int above, .int below] (.val (encM (linesM values places above below))) := by
  have hLim : Lim = 67108864 := rfl
  refine FnSpec.intro (H.defs 58 _ dLines.2) (by decide +kernel) (by decide +kernel) (by rfl) ?_ ?_
  · exact fun pm cd doc vs h => len4 h rfl fun _ _ _ _ => rfl
  intro env ok
  show ExA C _ dLines.1.body [some (.val (encP values)), some (.val (encZ places)), some (.val (.int above)), some (.val (.int below)), none, none, none, none, none, none] [] _
  refine ExA.cons <| StA.assignN 4 rfl (.inl rfl) <| EvA.list <| ArA.nil ⟨_, rfl, by simp, fun lf => ⟨rfl, ?_⟩⟩
  refine ExA.cons <| StA.for <| ItA.enum 8 rfl H.b_enum.1 H.b_enum.2 <| EvA.name 0 rfl rfl ⟨_, rfl, ?_⟩
  refine ⟨(JLines values places above below lf), ⟨none, none, none, rfl, rfl⟩, ?_, ?_⟩
  · rintro i w σ μ hw ⟨o5, o6, o7, rfl, rfl⟩
    obtain ⟨d, hd, rfl⟩ := enumW_get hw
    obtain ⟨v, hvv, rfl⟩ := encP_get hd
    have hi := (List.getElem?_eq_some_iff.mp hvv).1
    have bvv := bv v (List.mem_of_getElem? hvv)
    have ev : values.getD i 0 = v := by
      have e : values.getD i 0 = values[i]?.getD 0 := List.getD_eq_getElem?_getD
      rw [e, hvv]; rfl
    have hx := bp i hi
    generalize hxx : places.getD i 0 = x at hx
    have gx : places[i]? = some x := by rw [← hxx]; exact gZ (by first | with_reducible assumption | with_reducible exact Nat.le_trans ‹_ ≤ 400› (by decide) | with_reducible exact Nat.le_trans ‹_ ≤ 100› (by decide) | with_reducible exact Int.natCast_nonneg _ | with_reducible exact n62 _ | with_reducible exact l62 ‹_ ≤ 400› (by decide) | with_reducible exact l62 ‹_ ≤ 100› (by decide) | omega)
    have powbd : ∀ p, p ≤ 10 → Bd (m * 10 + 1) ((x ^ p : Int) : Rat) := by
      intro p hp
      refine ⟨?_, ?_⟩
      · show (x ^ p).natAbs < _
        rw [Int.natAbs_pow]
        have h2 : x.natAbs ^ p ≤ (2 ^ m) ^ p := Nat.pow_le_pow_left (by first | with_reducible assumption | with_reducible exact Nat.le_trans ‹_ ≤ 400› (by decide) | with_reducible exact Nat.le_trans ‹_ ≤ 100› (by decide) | with_reducible exact Int.natCast_nonneg _ | with_reducible exact n62 _ | with_reducible exact l62 ‹_ ≤ 400› (by decide) | with_reducible exact l62 ‹_ ≤ 100› (by decide) | omega) p
        have h3 : (2 ^ m) ^ p = 2 ^ (m * p) := (Nat.pow_mul 2 m p).symm
        have h4 : 2 ^ (m * p) ≤ 2 ^ (m * 10) := pow_le2 (Nat.mul_le_mul_left _ hp)
        rw [Nat.pow_succ]
        have h5 : 0 < 2 ^ (m * 10) := Nat.pow_pos (by decide)
        omega
      · show 1 < _
        exact Nat.one_lt_pow (by first | with_reducible assumption | with_reducible exact Nat.le_trans ‹_ ≤ 400› (by decide) | with_reducible exact Nat.le_trans ‹_ ≤ 100› (by decide) | with_reducible exact Int.natCast_nonneg _ | with_reducible exact n62 _ | with_reducible exact l62 ‹_ ≤ 400› (by decide) | with_reducible exact l62 ‹_ ≤ 100› (by decide) | omega) (by decide)
    refine AgA.tup rfl <| AgA.name 5 rfl (.inr rfl) <| AgA.name 6 rfl (.inr rfl) ?_
    refine ExA.cons' <| StA.assignM 7 1 rfl rfl (by decide +kernel) (by rfl) rfl (by decide +kernel) <| ItA.range1 9 rfl H.b_range.1 H.b_range.2 <| EvA.bin <| EvA.name 2 rfl rfl <| EvA.cint <| OpA.add ⟨_, rfl, by omega, by omega, ?_⟩
    have er : ((above : Int) + 1).toNat = above + 1 := rfl
    rw [er]
    refine ⟨[none, none, some (.val (.int i)), some (.val (encZ places))], (List.range (above + 1)).map fun p => encQ ((x ^ p : Int) : Rat), ⟨⟨rfl, 5, rfl, rfl⟩, ⟨rfl, 1, rfl, rfl⟩, trivial⟩, by simp, by simp, by simp [sizeLine]; omega, ?_, ?_⟩
    · intro env' ok' p w hw
      obtain ⟨p', ep, hpn, rfl⟩ := rng_get hw
      subst ep
      replace hpn : p' < above + 1 := hpn
      refine EvA.tuple <| ArA.cons <| EvA.bin <| EvA.sub <| EvA.name 3 rfl rfl <| EvA.name 2 rfl rfl <| SubA.at i (.inl rfl) rfl (getZ gx) (by first | with_reducible exact lz ‹_ ≤ 400› (by decide) | with_reducible exact lz ‹_ ≤ 100› (by decide) | with_reducible exact lz ‹_ ≤ 50› (by decide) | with_reducible exact lz62 ‹_ ≤ 400› (by decide) | with_reducible exact lz62 ‹_ ≤ 100› (by decide) | with_reducible exact lz62 ‹_ ≤ 50› (by decide) | (rw [List.length_map]; omega)) <| EvA.name 1 rfl rfl <| OpA.pow (by first | with_reducible assumption | with_reducible exact Nat.le_trans ‹_ ≤ 400› (by decide) | with_reducible exact Nat.le_trans ‹_ ≤ 100› (by decide) | with_reducible exact Int.natCast_nonneg _ | with_reducible exact n62 _ | with_reducible exact l62 ‹_ ≤ 400› (by decide) | with_reducible exact l62 ‹_ ≤ 100› (by decide) | omega) ?_ <| ArA.cons <| EvA.cint <| ArA.nil ⟨_, rfl, by simp [sizeLine], ⟨_, rfl, rfl, rfl, ?_⟩⟩
      · have hb := intBits_le hx
        have h2 : (Builtin.Int.intBits x : Int) * (p' : Int) ≤ (m : Int) * 10 := by
          have : Builtin.Int.intBits x * p' ≤ m * 10 := Nat.mul_le_mul hb (by first | with_reducible assumption | with_reducible exact Nat.le_trans ‹_ ≤ 400› (by decide) | with_reducible exact Nat.le_trans ‹_ ≤ 100› (by decide) | with_reducible exact Int.natCast_nonneg _ | with_reducible exact n62 _ | with_reducible exact l62 ‹_ ≤ 400› (by decide) | with_reducible exact l62 ‹_ ≤ 100› (by decide) | omega)
          exact_mod_cast this
        omega
      · have e : ((p' : Nat) : Int).toNat = p' := rfl
        rw [e, List.getElem?_map, List.getElem?_range hpn]; rfl
    intro lp
    refine JdW.frzV 7 (pre := []) rfl ?_
    have pw : (List.range (above + 1)).map (fun p => encQ ((x ^ p : Int) : Rat)) = ((List.range (above + 1)).map fun p => ((x ^ p : Int) : Rat)).map encQ := by simp
    rw [pw]
    have tk : ∀ j, j ≤ above → (((List.range (above + 1)).map fun p => ((x ^ p : Int) : Rat)).map encQ).take (j + 1) = ((List.range (j + 1)).map fun p => ((x ^ p : Int) : Rat)).map encQ := by
      intro j hj
      rw [← List.map_take, ← List.map_take, List.take_range, Nat.min_eq_left (by first | with_reducible assumption | with_reducible exact Nat.le_trans ‹_ ≤ 400› (by decide) | with_reducible exact Nat.le_trans ‹_ ≤ 100› (by decide) | with_reducible exact Int.natCast_nonneg _ | with_reducible exact n62 _ | with_reducible exact l62 ‹_ ≤ 400› (by decide) | with_reducible exact l62 ‹_ ≤ 100› (by decide) | omega)]
    have p1 : ∀ (xs : List PyData) (j : Nat), pick xs none (some ((j : Int) + 1)) = xs.take (j + 1) := fun xs j => by
      have e : ((j : Int) + 1) = ((j + 1 : Nat) : Int) := by omega
      rw [e]; exact pick_to (j + 1)
    refine ExA.cons' <| StA.append 4 rfl rfl (.head _) <| JdW.frz <| EvA.bin <| JdW.frz <| EvA.slice <| EvA.name 7 rfl rfl <| PtA.no <| PtA.yes <| EvA.bin <| EvA.name 2 rfl rfl <| EvA.cint <| OpA.add ⟨_, rfl, _, .inl rfl, by simp [sizeLine]; omega, fun l => ⟨l, _, [], _, rfl, rfl, ?_⟩⟩
    rw [p1, tk above (Nat.le_refl _)]
    refine JdW.frz <| EvA.compM 1 rfl (by decide +kernel) (by rfl) <| ItA.list <| JdW.frz <| EvA.slice <| EvA.name 7 rfl rfl <| PtA.no <| PtA.yes <| EvA.bin <| EvA.name 3 rfl rfl <| EvA.cint <| OpA.add ⟨_, rfl, _, .inl rfl, by simp [sizeLine]; omega, fun l => ⟨l, _, [], _, rfl, rfl, ?_⟩⟩
    rw [p1, tk below hab]
    refine ⟨_, rfl, [none, none, none, none, some (.val (encQ v))], (List.range (below + 1)).map fun p => encQ (-(v * ((x ^ p : Int) : Rat))), ⟨⟨rfl, 6, rfl, rfl⟩, trivial⟩, by simp, by simp, by simp [sizeLine]; omega, ?_, ?_⟩
    · intro env' ok' p w hw
      rw [List.map_map, List.map_map] at hw
      obtain ⟨p', ep, hpn, rfl⟩ := rng_get hw
      subst ep
      replace hpn : p' < below + 1 := hpn
      refine EvA.call 2 rfl (H.defs 12 _ dRneg.2).at <| ArA.cons <| EvA.call 3 rfl (H.defs 10 _ dRmul.2).at <| ArA.cons <| EvA.name 4 rfl rfl <| ArA.cons <| EvA.name 1 rfl rfl <| ArA.nil ⟨_, _, rfl, rmul_spec H bvv (powbd p' (by first | with_reducible assumption | with_reducible exact Nat.le_trans ‹_ ≤ 400› (by decide) | with_reducible exact Nat.le_trans ‹_ ≤ 100› (by decide) | with_reducible exact Int.natCast_nonneg _ | with_reducible exact n62 _ | with_reducible exact l62 ‹_ ≤ 400› (by decide) | with_reducible exact l62 ‹_ ≤ 100› (by decide) | omega)) (by first | with_reducible assumption | with_reducible exact Nat.le_trans ‹_ ≤ 400› (by decide) | with_reducible exact Nat.le_trans ‹_ ≤ 100› (by decide) | with_reducible exact Int.natCast_nonneg _ | with_reducible exact n62 _ | with_reducible exact l62 ‹_ ≤ 400› (by decide) | with_reducible exact l62 ‹_ ≤ 100› (by decide) | omega), ArA.nil ⟨_, _, rfl, (rneg_spec H _).le (show 1 ≤ 3 by decide), ⟨_, rfl, rfl, rfl, ?_⟩⟩⟩
      simp [hpn]
    intro l
    refine ⟨l, _, [], _, rfl, rfl, ?_⟩
    refine OpA.addL (.inl rfl) (.inl rfl) (by first | with_reducible exact lzs ‹_ ≤ 400› (by decide) | with_reducible exact lzs ‹_ ≤ 100› (by decide) | with_reducible exact lzs ‹_ ≤ 50› (by decide) | (simp [sizeLine]; omega)) fun l => ⟨l, _, [], _, rfl, rfl, ⟨_, [], _, _, rfl, rfl, by simp [sizeLine, encRows]; omega, ?_⟩⟩
    refine ExA.nil ⟨_, _, _, rfl, ?_⟩
    simp only [List.range_succ, List.map_append, List.map_cons, List.map_nil, encRows, encP, lineRow, ev, hxx, List.map_map, Function.comp_def]
    rfl
  · rintro σ μ ⟨o5, o6, o7, rfl, rfl⟩
    rw [enumW_length, List.length_map]
    refine ⟨rfl, ?_⟩
    exact ExA.cons' <| StA.ret <| JdW.frz <| EvA.name 4 rfl rfl ⟨lf, _, [], _, rfl, rfl, .inl rfl⟩
end Mine
end
section
open PySem PySem.W PySem.Calls PyProof.Rows
set_option linter.unusedVariables false
namespace Mine
set_option maxRecDepth 100000

noncomputable def dLaw : { x : DefText // nthDef 59 = some x } := ⟨_, rfl⟩

/-- the draws of the law -/
structure Good (m : Nat) (nums places : Z) : Prop where
  m2 : 2 ≤ m
  m4 : m ≤ 4
  ln : nums.length = m + 1
  lp : places.length = m + 1
  x0 : -2 ≤ places.getD 0 0 ∧ places.getD 0 0 ≤ 2
  a0 : -2 ≤ nums.getD 0 0 ∧ nums.getD 0 0 ≤ 2
  xs : ∀ i, i < m → places.getD i 0 + 1 ≤ places.getD (i + 1) 0 ∧ places.getD (i + 1) 0 ≤ places.getD i 0 + 2
  as : ∀ i, i < m → 4 ≤ nums.getD (i + 1) 0 ∧ nums.getD (i + 1) 0 ≤ 6

noncomputable def laterOf (m : Nat) (places : Z) : Z := places ++ [places.getD m 0 + 1]

structure LawOk (C : Cx) (m : Nat) (nums places : Z) where
  tops : Nat → Z
  bots : Nat → Z
  steps : FnSpec C 10 (Str.ofString "_law_steps") [encZ nums, encZ places] (.val (.tuple [.list (encZs tops (m + 1)), .list (encZs bots (m + 1))]))
  told : Fr2
  within : FnSpec C 10 (Str.ofString "_law_within") [encZ nums, encZ places] (.val (encF told))
  ltop : ∀ k, k ≤ m → (tops k).length ≤ 100 ∧ (bots k).length ≤ 100
  make : FnSpec C 10 (Str.ofString "fmake") [encP (fromZ (tops m)), encP (fromZ (bots m))] (.val (encF told))
  V : Nat → Rat
  fat : ∀ s, s ≤ m + 1 → FnSpec C 10 (Str.ofString "fat") [encF told, encQ (((laterOf m places).getD s 0 : Int) : Rat)] (.val (encQ (V s)))
  zt : ∀ k s, s ≤ k → k ≤ m → FnSpec C 10 (Str.ofString "zat") [encZ (tops k), .int (places.getD s 0)] (.val (.int (zat (tops k) (places.getD s 0))))
  zb : ∀ k s, s ≤ k → k ≤ m → FnSpec C 10 (Str.ofString "zat") [encZ (bots k), .int (places.getD s 0)] (.val (.int (zat (bots k) (places.getD s 0))))
  zok : ∀ k s, s ≤ k → k ≤ m → IntMulOk (zat (tops k) (places.getD s 0)) (V s).den ∧ IntMulOk (zat (bots k) (places.getD s 0)) (V s).num ∧ zat (tops k) (places.getD s 0) * (V s).den = zat (bots k) (places.getD s 0) * (V s).num
  D : Nat → Z
  D0 : D 0 = [-1]
  R : Nat → Z
  d1 : ∀ k, k < m → FnSpec C 10 (Str.ofString "zmul") [encZ (D k), encZ [0 - places.getD k 0, 1]] (.val (encZ (R k)))
  d2 : ∀ k, k < m → FnSpec C 10 (Str.ofString "zscale") [encZ (R k), .int (-1)] (.val (encZ (D (k + 1))))
  A : Nat → Z
  d3 : ∀ k, k < m → FnSpec C 10 (Str.ofString "zmul") [encZ (tops (k + 1)), encZ (bots k)] (.val (encZ (A k)))
  B : Nat → Z
  d4 : ∀ k, k < m → FnSpec C 10 (Str.ofString "zmul") [encZ (tops k), encZ (bots (k + 1))] (.val (encZ (B k)))
  d5 : ∀ k, k < m → FnSpec C 10 (Str.ofString "zsub") [encZ (A k), encZ (B k)] (.val (encZ (D (k + 1))))
  back : FnSpec C 10 (Str.ofString "_law_back") [encP ((List.range (m + 2)).map V), encZ (laterOf m places), .int m] (.val (encP (fromZ (nums.take m ++ [nums.getD m 0, nums.getD m 0]))))
  lines : M
  dlines : FnSpec C 10 (Str.ofString "_law_lines") [encP ((List.range (m + 1)).map V), encZ places, .int ((m + 1) / 2 : Nat), .int (m / 2 : Nat)] (.val (encM lines))
  free : M
  dfree : FnSpec C 10 (Str.ofString "null_base") [encM lines] (.val (encM free))
  lfree : 0 < free.length ∧ free.length ≤ 100
  rows : ∀ r ∈ free, r.length ≤ 100 ∧ trim 0 (r.drop ((m + 1) / 2 + 1)) ≠ [] ∧ FnSpec C 10 (Str.ofString "fmake") [encP (trim 0 (r.take ((m + 1) / 2 + 1))), encP (trim 0 (r.drop ((m + 1) / 2 + 1)))] (.val (encF told))
  ends : (tops m).length ≤ (m + 1) / 2 + 1 ∧ (bots m).length ≤ m / 2 + 1

theorem eqv_encP (p : P) : PyData.eqv (encP p) (encP p) = true := by
  unfold encP
  simp only [PyData.eqv]
  induction p with
  | nil => rfl
  | cons x t ih => simp only [List.map_cons, PyData.eqvAll, eqv_encQ, ih]; simp
theorem eqv_encF (f : Fr2) : PyData.eqv (encF f) (encF f) = true := by
  simp only [encF, PyData.eqv, PyData.eqvAll, eqv_encP]; rfl
theorem eqv_encZ (p : Z) : PyData.eqv (encZ p) (encZ p) = true := by
  unfold encZ
  simp only [PyData.eqv]
  induction p with
  | nil => rfl
  | cons x t ih => simp only [List.map_cons, PyData.eqvAll, eqv_int, ih]; simp
theorem depth_encP (p : P) : (encP p).depth ≤ 10 := by
  unfold encP
  simp only [PyData.depth]
  have : PyData.depthAll (p.map encQ) ≤ 5 := by
    induction p with
    | nil => simp [PyData.depthAll]
    | cons x t ih => simp only [List.map_cons, PyData.depthAll]; refine Nat.max_le.mpr ⟨?_, ih⟩; simp [encQ, PyData.depth, PyData.depthAll]
  omega
theorem depth_encF (f : Fr2) : (encF f).depth ≤ 30 := by
  simp only [encF, PyData.depth, PyData.depthAll]
  have h1 := depth_encP f.1
  have h2 := depth_encP f.2
  omega
theorem depth_encZ (p : Z) : (encZ p).depth ≤ 10 := by
  unfold encZ
  simp only [PyData.depth]
  have : PyData.depthAll (p.map PyData.int) ≤ 5 := by
    induction p with
    | nil => simp [PyData.depthAll]
    | cons x t ih => simp only [List.map_cons, PyData.depthAll]; refine Nat.max_le.mpr ⟨?_, ih⟩; simp [PyData.depth]
  omega

noncomputable def SecondOk (C : Cx) (env : Env) (ok : EnvOk dLaw.1.scope.names env) : Prop := ∀ (m : Nat) (nums places : Z) (o0 o1 o5 : Option WV), Good m nums places → ExA C ⟨dLaw.1.scope.names, env, 10, ok⟩ (dLaw.1.body.drop 4)
  [o0, o1, some (.val (.int m)), some (.val (encZ places)), some (.val (encZ nums)), o5, none, none, none, none, none, none, none, none, none, none, none, none, none, none, none, none, none, none, none, none, none, none, none, none, none, none, none, none, none, none] [] (fun f σ μ => f = .ret (.val (.bool true)))

theorem getD_append_left {a b : Z} {i : Nat} (h : i < a.length) : (a ++ b).getD i 0 = a.getD i 0 := by
  simp [List.getD_eq_getElem?_getD, List.getElem?_append_left h]
theorem getD_append_one {a : Z} {x : Int} : (a ++ [x]).getD a.length 0 = x := by
  simp [List.getD_eq_getElem?_getD]

inductive JDraws (cs : Z) (m : Nat) (lp lx ln : Addr) (t : Nat) (σ : Sg) (μ : Mu) : Prop
  | mk (o0 o5 : Option WV) (xs as : Z) (spot : Nat) (h1 : σ = [o0, some (.adr lp), some (.val (.int m)), some (.adr lx), some (.adr ln), o5, none, none, none, none, none, none, none, none, none, none, none, none, none, none, none, none, none, none, none, none, none, none, none, none, none, none, none, none, none, none]) (h2 : μ = [(ln, as.map .int), (lx, xs.map .int), (lp, [encZ cs, .int (spot : Nat)])]) (h3 : as.length = t + 1) (h4 : xs.length = t + 1) (h5 : (-2 ≤ xs.getD 0 0 ∧ xs.getD 0 0 ≤ 2)) (h6 : (-2 ≤ as.getD 0 0 ∧ as.getD 0 0 ≤ 2)) (h7 : (∀ i, i < t → xs.getD i 0 + 1 ≤ xs.getD (i + 1) 0 ∧ xs.getD (i + 1) 0 ≤ xs.getD i 0 + 2)) (h8 : (∀ i, i < t → 4 ≤ as.getD (i + 1) 0 ∧ as.getD (i + 1) 0 ≤ 6))
set_option maxHeartbeats 4000000 in
theorem law_first {C : Cx} (H : Facts C) {cells : Z} (hc : cells.length ≤ 100) (env : Env) (ok : EnvOk dLaw.1.scope.names env) (P : SecondOk C env ok) :
    ExA C ⟨dLaw.1.scope.names, env, 10, ok⟩ dLaw.1.body [some (.val (encZ cells)), none, none, none, none, none, none, none, none, none, none, none, none, none, none, none, none, none, none, none, none, none, none, none, none, none, none, none, none, none, none, none, none, none, none, none] [] (fun f σ μ => f = .ret (.val (.bool true))) := by
  have hdr := (H.defs 54 _ dDraw.2).at
  refine ExA.cons' <| StA.assignN 1 rfl (.inl rfl) <| EvA.list <| ArA.cons <| JdW.frz <| EvA.compM 1 rfl (by decide +kernel) (by rfl) <| ItA.list <| JdW.frz <| EvA.slice <| EvA.name 0 rfl rfl <| PtA.no <| PtA.yes <| EvA.cint ⟨_, rfl, _, .inl rfl, by simp [sizeLine]; omega, fun l => ⟨l, _, [], _, rfl, rfl, ?_⟩⟩
  have p1 : pick (cells.map PyData.int) none (some 11) = (cells.take 11).map PyData.int := by rw [List.map_take]; exact pick_to 11
  rw [p1]
  have hcs : (cells.take 11).length ≤ 100 := by simp; omega
  generalize cells.take 11 = cs at *
  refine ⟨_, rfl, [none, none, none], cs.map PyData.int, trivial, by simp, by simp, by simp [sizeLine]; omega, ?_, ?_⟩
  · intro env' ok' i w hw
    rw [List.map_map] at hw
    obtain ⟨x, hx, rfl⟩ := list_get hw
    exact EvA.callT 2 rfl H.b_int.1 H.b_int.2 <| ArA.cons <| EvA.name 1 rfl rfl <| ArA.nil <| ClA.int ⟨_, rfl, rfl, rfl, by simp [hx]⟩
  intro l
  refine ⟨l, _, [], _, rfl, rfl, ?_⟩
  refine ArA.cons <| EvA.cint <| ArA.nil ⟨_, rfl, by simp [sizeLine], fun lp => ?_⟩
  have b3 := drawV_bd cs 0 (many := 3) (by decide)
  have b5 := drawV_bd cs 1 (many := 5) (by decide)
  have b6 := drawV_bd cs 2 (many := 5) (by decide)
  have s0 := (draw_spec H (spot := 0) (many := 3) hcs (by decide)).le (show 1 ≤ 10 by decide)
  have s1 := (draw_spec H (spot := 1) (many := 5) hcs (by decide)).le (show 1 ≤ 10 by decide)
  have s2 := (draw_spec H (spot := 2) (many := 5) hcs (by decide)).le (show 1 ≤ 10 by decide)
  generalize drawV cs 0 3 = d0 at *
  generalize drawV cs 1 5 = d1 at *
  generalize drawV cs 2 5 = d2 at *
  refine ExA.cons' <| StA.assignW 2 3 rfl rfl (EvA.two <| ArA.cons <| EvA.bin <| EvA.cint <| EvA.callR 21 rfl hdr <| ArA.cons <| EvA.name 1 rfl rfl <| ArA.cons <| EvA.cint <| ArA.nil ⟨lp, _, _, [], _, [], _, _, rfl, rfl, rfl, s0, OpA.add ?_⟩) (swapped_yes (i := 2) (j := 3) rfl rfl (by decide) rfl rfl rfl rfl)
  refine ArA.cons <| EvA.list <| ArA.cons <| EvA.bin <| EvA.callR 21 rfl hdr <| ArA.cons <| EvA.name 1 rfl rfl <| ArA.cons <| EvA.cint <| ArA.nil ⟨lp, _, _, [], _, [], _, _, rfl, rfl, rfl, s1, EvA.cint <| OpA.sub <| ArA.nil ⟨_, rfl, by simp [sizeLine], fun lx => ArA.nil ⟨_, _, rfl, _, _, rfl, ?_⟩⟩⟩
  refine ExA.cons' <| StA.assignN 4 rfl (.inl rfl) <| EvA.list <| ArA.cons <| EvA.bin <| EvA.callR 21 rfl hdr <| ArA.cons <| EvA.name 1 rfl rfl <| ArA.cons <| EvA.cint <| ArA.nil ⟨lp, _, _, [_], _, [], _, _, rfl, rfl, rfl, s2, EvA.cint <| OpA.sub <| ArA.nil ⟨_, rfl, by simp [sizeLine], fun ln => ?_⟩⟩
  obtain ⟨m, hm⟩ : ∃ m : Nat, 2 + d0 = (m : Int) := ⟨(2 + d0).toNat, by omega⟩
  rw [hm]
  refine ExA.cons' <| StA.for <| ItA.range1 22 rfl H.b_range.1 H.b_range.2 <| EvA.name 2 rfl rfl ⟨_, rfl, by omega, by omega, ?_⟩
  refine ⟨(JDraws cs m lp lx ln),
    ⟨_, _, [d1 - 2], [d2 - 2], 3, rfl, rfl, rfl, rfl, by simp; omega, by simp; omega, fun i hi => absurd hi (by first | with_reducible assumption | with_reducible exact Nat.le_trans ‹_ ≤ 400› (by decide) | with_reducible exact Nat.le_trans ‹_ ≤ 100› (by decide) | with_reducible exact Int.natCast_nonneg _ | with_reducible exact n62 _ | with_reducible exact l62 ‹_ ≤ 400› (by decide) | with_reducible exact l62 ‹_ ≤ 100› (by decide) | omega), fun i hi => absurd hi (by first | with_reducible assumption | with_reducible exact Nat.le_trans ‹_ ≤ 400› (by decide) | with_reducible exact Nat.le_trans ‹_ ≤ 100› (by decide) | with_reducible exact Int.natCast_nonneg _ | with_reducible exact n62 _ | with_reducible exact l62 ‹_ ≤ 400› (by decide) | with_reducible exact l62 ‹_ ≤ 100› (by decide) | omega)⟩, ?_, ?_⟩
  · rintro t w σ μ hw ⟨o0, o5, xs, as, spot, rfl, rfl, la, lx1, hx0, ha0, hxs, has⟩
    obtain ⟨t', ht', rfl⟩ := list_get hw
    have htm : t < m := by
      obtain ⟨_, e, h, _⟩ := rng_get hw
      subst e; exact h
    clear ht'
    have e1 := drawV_bd cs spot (many := 2) (by decide)
    have e2 := drawV_bd cs (spot + 1) (many := 3) (by decide)
    have s0 := (draw_spec H (spot := spot) (many := 2) hcs (by decide)).le (show 1 ≤ 10 by decide)
    have s1 := (draw_spec H (spot := spot + 1) (many := 3) hcs (by decide)).le (show 1 ≤ 10 by decide)
    generalize drawV cs spot 2 = g0 at *
    generalize drawV cs (spot + 1) 3 = g1 at *
    have hlast : (xs.map PyData.int).getLast? = some (.int (xs.getD t 0)) := by
      rw [List.getLast?_eq_getElem?, List.length_map, lx1]
      exact getZ (gZ (by first | with_reducible assumption | with_reducible exact Nat.le_trans ‹_ ≤ 400› (by decide) | with_reducible exact Nat.le_trans ‹_ ≤ 100› (by decide) | with_reducible exact Int.natCast_nonneg _ | with_reducible exact n62 _ | with_reducible exact l62 ‹_ ≤ 400› (by decide) | with_reducible exact l62 ‹_ ≤ 100› (by decide) | omega))
    refine AgA.name 5 rfl (.inl rfl) ?_
    refine ExA.cons' <| StA.append 3 rfl rfl (.tail _ (.head _)) <| EvA.bin <| EvA.bin <| EvA.sub <| EvA.name 3 rfl rfl <| EvA.un <| EvA.cint <| Op1.neg <| SubA.last (.inr ⟨lx, rfl, .tail _ (.head _)⟩) hlast (by first | with_reducible exact lz ‹_ ≤ 400› (by decide) | with_reducible exact lz ‹_ ≤ 100› (by decide) | with_reducible exact lz ‹_ ≤ 50› (by decide) | with_reducible exact lz62 ‹_ ≤ 400› (by decide) | with_reducible exact lz62 ‹_ ≤ 100› (by decide) | with_reducible exact lz62 ‹_ ≤ 50› (by decide) | (rw [List.length_map]; omega)) <| EvA.cint <| OpA.add <| EvA.callR 21 rfl hdr <| ArA.cons <| EvA.name 1 rfl rfl <| ArA.cons <| EvA.cint <| ArA.nil ⟨lp, _, _, [_, _], _, [], _, _, rfl, rfl, rfl, s0, OpA.add ⟨_, [_], _, _, rfl, rfl, by rw [List.length_map]; exact Nat.le_trans (show xs.length ≤ 100 by omega) (by decide), ?_⟩⟩
    refine ExA.cons' <| StA.append 4 rfl rfl (.head _) <| EvA.bin <| EvA.cint <| EvA.callR 21 rfl hdr <| ArA.cons <| EvA.name 1 rfl rfl <| ArA.cons <| EvA.cint <| ArA.nil ⟨lp, _, _, [_, _], _, [], _, _, rfl, rfl, rfl, s1, OpA.add ⟨_, [], _, _, rfl, rfl, by rw [List.length_map]; exact Nat.le_trans (show as.length ≤ 100 by omega) (by decide), ?_⟩⟩
    refine ExA.nil ⟨_, _, xs ++ [xs.getD t 0 + 1 + g0], as ++ [4 + g1], spot + 2, rfl, ?_, by simp; omega, by simp; omega, ?_, ?_, ?_, ?_⟩
    · simp only [List.map_append, List.map_cons, List.map_nil]; rfl
    · rw [getD_append_left (by first | with_reducible assumption | with_reducible exact Nat.le_trans ‹_ ≤ 400› (by decide) | with_reducible exact Nat.le_trans ‹_ ≤ 100› (by decide) | with_reducible exact Int.natCast_nonneg _ | with_reducible exact n62 _ | with_reducible exact l62 ‹_ ≤ 400› (by decide) | with_reducible exact l62 ‹_ ≤ 100› (by decide) | omega)]; exact hx0
    · rw [getD_append_left (by first | with_reducible assumption | with_reducible exact Nat.le_trans ‹_ ≤ 400› (by decide) | with_reducible exact Nat.le_trans ‹_ ≤ 100› (by decide) | with_reducible exact Int.natCast_nonneg _ | with_reducible exact n62 _ | with_reducible exact l62 ‹_ ≤ 400› (by decide) | with_reducible exact l62 ‹_ ≤ 100› (by decide) | omega)]; exact ha0
    · intro i hi
      rw [getD_append_left (by first | with_reducible assumption | with_reducible exact Nat.le_trans ‹_ ≤ 400› (by decide) | with_reducible exact Nat.le_trans ‹_ ≤ 100› (by decide) | with_reducible exact Int.natCast_nonneg _ | with_reducible exact n62 _ | with_reducible exact l62 ‹_ ≤ 400› (by decide) | with_reducible exact l62 ‹_ ≤ 100› (by decide) | omega)]
      by_cases hit : i < t
      · rw [getD_append_left (by first | with_reducible assumption | with_reducible exact Nat.le_trans ‹_ ≤ 400› (by decide) | with_reducible exact Nat.le_trans ‹_ ≤ 100› (by decide) | with_reducible exact Int.natCast_nonneg _ | with_reducible exact n62 _ | with_reducible exact l62 ‹_ ≤ 400› (by decide) | with_reducible exact l62 ‹_ ≤ 100› (by decide) | omega)]; exact hxs i hit
      · have e : i = t := by omega
        subst e
        have := getD_append_one (a := xs) (x := xs.getD i 0 + 1 + g0)
        rw [lx1] at this
        rw [this]; omega
    · intro i hi
      by_cases hit : i < t
      · rw [getD_append_left (by first | with_reducible assumption | with_reducible exact Nat.le_trans ‹_ ≤ 400› (by decide) | with_reducible exact Nat.le_trans ‹_ ≤ 100› (by decide) | with_reducible exact Int.natCast_nonneg _ | with_reducible exact n62 _ | with_reducible exact l62 ‹_ ≤ 400› (by decide) | with_reducible exact l62 ‹_ ≤ 100› (by decide) | omega)]; exact has i hit
      · have e : i = t := by omega
        subst e
        have := getD_append_one (a := as) (x := 4 + g1)
        rw [la] at this
        rw [this]; omega
  · rintro σ μ ⟨o0, o5, xs, as, spot, rfl, rfl, la, lx1, hx0, ha0, hxs, has⟩
    have em : ((m : Nat) : Int).toNat = m := rfl
    rw [List.length_map, List.length_range, em] at *
    refine JdW.frzV 4 (pre := []) rfl ?_
    refine JdW.frzV 3 (pre := []) rfl ?_
    exact JdW.drop (List.nil_sublist _) (P m as xs o0 _ o5 ⟨by omega, by omega, la, lx1, hx0, ha0, hxs, has⟩)
end Mine
end
section
open PySem PySem.W PySem.Calls PyProof.Rows
set_option linter.unusedVariables false
namespace Mine
set_option maxRecDepth 100000

theorem decide_nat_succ (k : Nat) : decide ((0 : Int) < ((k : Nat) : Int)) = decide (0 < k) := by simp
theorem encZs_getI {S : Nat → Z} {n i : Nat} (h : i < n) : (encZs S n)[i]? = some (encZ (S i)) := encZs_get S h
theorem laterGet {m : Nat} {places : Z} (h : places.length = m + 1) {s : Nat} (hs : s ≤ m) : (laterOf m places).getD s 0 = places.getD s 0 := getD_append_left (by first | with_reducible assumption | with_reducible exact Nat.le_trans ‹_ ≤ 400› (by decide) | with_reducible exact Nat.le_trans ‹_ ≤ 100› (by decide) | with_reducible exact Int.natCast_nonneg _ | with_reducible exact n62 _ | with_reducible exact l62 ‹_ ≤ 400› (by decide) | with_reducible exact l62 ‹_ ≤ 100› (by decide) | omega)
theorem laterLen {m : Nat} {places : Z} (h : places.length = m + 1) : (laterOf m places).length = m + 2 := by simp [laterOf]; omega
theorem getV {V : Nat → Rat} {n i : Nat} (h : i < n) : (((List.range n).map V).map encQ)[i]? = some (encQ (V i)) := by simp [h]

/-- behind the loop of checks -/
noncomputable def ThirdOk (C : Cx) (env : Env) (ok : EnvOk dLaw.1.scope.names env) (m : Nat) (nums places : Z) (K : LawOk C m nums places) : Prop := ∀ (o0 o1 o5 o11 o12 o13 o14 : Option WV), ExA C ⟨dLaw.1.scope.names, env, 10, ok⟩ (dLaw.1.body.drop 11)
  [o0, o1, some (.val (.int m)), some (.val (encZ places)), some (.val (encZ nums)), o5, some (.val (.list (encZs K.tops (m + 1)))), some (.val (.list (encZs K.bots (m + 1)))), some (.val (encF K.told)), some (.val (encZ (laterOf m places))), some (.val (encP ((List.range (m + 2)).map K.V))), o11, o12, o13, o14, none, none, none, none, none, none, none, none, none, none, none, none, none, none, none, none, none, none, none, none, none] [] (fun f σ μ => f = .ret (.val (.bool true)))

inductive JChecks {C : Cx} {m : Nat} {nums places : Z} (K : LawOk C m nums places) (o0 o1 o5 : Option WV) (k : Nat) (σ : Sg) (μ : Mu) : Prop
  | mk (o12 o13 o14 : Option WV) (h1 : σ = [o0, o1, some (.val (.int m)), some (.val (encZ places)), some (.val (encZ nums)), o5, some (.val (.list (encZs K.tops (m + 1)))), some (.val (.list (encZs K.bots (m + 1)))), some (.val (encF K.told)), some (.val (encZ (laterOf m places))), some (.val (encP ((List.range (m + 2)).map K.V))), some (.val (encZ (K.D (k - 1)))), o12, o13, o14, none, none, none, none, none, none, none, none, none, none, none, none, none, none, none, none, none, none, none, none, none]) (h2 : μ = [])
inductive JSpots {C : Cx} {m : Nat} {nums places : Z} (K : LawOk C m nums places) (o0 o1 o5 : Option WV) (k' : Nat) (s : Nat) (σ : Sg) (μ : Mu) : Prop
  | mk (o13 o14 : Option WV) (h1 : σ = [o0, o1, some (.val (.int m)), some (.val (encZ places)), some (.val (encZ nums)), o5, some (.val (.list (encZs K.tops (m + 1)))), some (.val (.list (encZs K.bots (m + 1)))), some (.val (encF K.told)), some (.val (encZ (laterOf m places))), some (.val (encP ((List.range (m + 2)).map K.V))), some (.val (encZ (K.D (k' - 1)))), some (.val (.int k')), o13, o14, none, none, none, none, none, none, none, none, none, none, none, none, none, none, none, none, none, none, none, none, none]) (h2 : μ = [])
set_option maxHeartbeats 4000000 in
theorem law_second {C : Cx} (H : Facts C) (env : Env) (ok : EnvOk dLaw.1.scope.names env) {m : Nat} {nums places : Z} (G : Good m nums places) (K : LawOk C m nums places) (P : ThirdOk C env ok m nums places K) (o0 o1 o5 : Option WV) :
   ExA C ⟨dLaw.1.scope.names, env, 10, ok⟩ (dLaw.1.body.drop 4)
  [o0, o1, some (.val (.int m)), some (.val (encZ places)), some (.val (encZ nums)), o5, none, none, none, none, none, none, none, none, none, none, none, none, none, none, none, none, none, none, none, none, none, none, none, none, none, none, none, none, none, none] [] (fun f σ μ => f = .ret (.val (.bool true))) := by
  have hm2 := G.m2
  have hm4 := G.m4
  have lnn := G.ln
  have lpp := G.lp
  have hlen := laterLen lpp
  refine ExA.cons' <| StA.assignT (EvA.call 23 rfl (H.defs 55 _ dSteps.2).at <| ArA.cons <| EvA.name 4 rfl rfl <| ArA.cons <| EvA.name 3 rfl rfl <| ArA.nil ⟨_, _, rfl, K.steps, AgA.tup rfl <| AgA.name 6 rfl (.inl rfl) <| AgA.name 7 rfl (.inl rfl) ?_⟩) (by rfl) (by rfl)
  refine ExA.cons' <| StA.assignN 8 rfl (.inr rfl) <| EvA.call 24 rfl (H.defs 56 _ dWithin.2).at <| ArA.cons <| EvA.name 4 rfl rfl <| ArA.cons <| EvA.name 3 rfl rfl <| ArA.nil ⟨_, _, rfl, K.within, ?_⟩
  obtain ⟨lt, lb⟩ := K.ltop m (Nat.le_refl _)
  refine ExA.cons' <| StA.ite <| TrA.cmp <| EvA.name 8 rfl rfl <| EvA.call 25 rfl (H.defs 31 _ dFmake.2).at <| ArA.cons <| EvA.call 26 rfl (H.defs 28 _ dFromz.2).at <| ArA.cons <| EvA.sub <| EvA.name 6 rfl rfl <| EvA.name 2 rfl rfl <| SubA.at m (.inl rfl) rfl (encZs_getI (by first | with_reducible assumption | with_reducible exact Nat.le_trans ‹_ ≤ 400› (by decide) | with_reducible exact Nat.le_trans ‹_ ≤ 100› (by decide) | with_reducible exact Int.natCast_nonneg _ | with_reducible exact n62 _ | with_reducible exact l62 ‹_ ≤ 400› (by decide) | with_reducible exact l62 ‹_ ≤ 100› (by decide) | omega)) (by rw [encZs_len]; omega) <| ArA.nil ⟨_, _, rfl, (from_z_spec H (by first | with_reducible assumption | with_reducible exact Nat.le_trans ‹_ ≤ 400› (by decide) | with_reducible exact Nat.le_trans ‹_ ≤ 100› (by decide) | with_reducible exact Int.natCast_nonneg _ | with_reducible exact n62 _ | with_reducible exact l62 ‹_ ≤ 400› (by decide) | with_reducible exact l62 ‹_ ≤ 100› (by decide) | omega)).le (show 1 ≤ 10 by decide), ?_⟩
  refine ArA.cons <| EvA.call 26 rfl (H.defs 28 _ dFromz.2).at <| ArA.cons <| EvA.sub <| EvA.name 7 rfl rfl <| EvA.name 2 rfl rfl <| SubA.at m (.inl rfl) rfl (encZs_getI (by first | with_reducible assumption | with_reducible exact Nat.le_trans ‹_ ≤ 400› (by decide) | with_reducible exact Nat.le_trans ‹_ ≤ 100› (by decide) | with_reducible exact Int.natCast_nonneg _ | with_reducible exact n62 _ | with_reducible exact l62 ‹_ ≤ 400› (by decide) | with_reducible exact l62 ‹_ ≤ 100› (by decide) | omega)) (by rw [encZs_len]; omega) <| ArA.nil ⟨_, _, rfl, (from_z_spec H (by first | with_reducible assumption | with_reducible exact Nat.le_trans ‹_ ≤ 400› (by decide) | with_reducible exact Nat.le_trans ‹_ ≤ 100› (by decide) | with_reducible exact Int.natCast_nonneg _ | with_reducible exact n62 _ | with_reducible exact l62 ‹_ ≤ 400› (by decide) | with_reducible exact l62 ‹_ ≤ 100› (by decide) | omega)).le (show 1 ≤ 10 by decide), ArA.nil ⟨_, _, rfl, K.make, OpA.ne (by have := depth_encF K.told; omega) ⟨_, rfl, ?_⟩⟩⟩
  rw [eqv_encF]
  refine ExA.nil ?_
  have hlast : (places.map PyData.int).getLast? = some (.int (places.getD m 0)) := by
    rw [List.getLast?_eq_getElem?, List.length_map, lpp]
    exact getZ (gZ (by first | with_reducible assumption | with_reducible exact Nat.le_trans ‹_ ≤ 400› (by decide) | with_reducible exact Nat.le_trans ‹_ ≤ 100› (by decide) | with_reducible exact Int.natCast_nonneg _ | with_reducible exact n62 _ | with_reducible exact l62 ‹_ ≤ 400› (by decide) | with_reducible exact l62 ‹_ ≤ 100› (by decide) | omega))
  refine ExA.cons' <| StA.assignN 9 rfl (.inl rfl) <| JdW.frz <| EvA.bin <| EvA.name 3 rfl rfl <| JdW.frz <| EvA.list <| ArA.cons <| EvA.bin <| EvA.sub <| EvA.name 3 rfl rfl <| EvA.un <| EvA.cint <| Op1.neg <| SubA.last (.inl rfl) hlast (by first | with_reducible exact lz ‹_ ≤ 400› (by decide) | with_reducible exact lz ‹_ ≤ 100› (by decide) | with_reducible exact lz ‹_ ≤ 50› (by decide) | with_reducible exact lz62 ‹_ ≤ 400› (by decide) | with_reducible exact lz62 ‹_ ≤ 100› (by decide) | with_reducible exact lz62 ‹_ ≤ 50› (by decide) | (rw [List.length_map]; omega)) <| EvA.cint <| OpA.add <| ArA.nil ⟨_, rfl, by simp [sizeLine], fun l => ⟨l, _, [], _, rfl, rfl, OpA.addL (.inl rfl) (.inl rfl) (by first | with_reducible exact lzs ‹_ ≤ 400› (by decide) | with_reducible exact lzs ‹_ ≤ 100› (by decide) | with_reducible exact lzs ‹_ ≤ 50› (by decide) | (simp [sizeLine]; omega)) fun l => ⟨l, _, [], _, rfl, rfl, ?_⟩⟩⟩
  have el : PyData.list (places.map PyData.int ++ [.int (places.getD m 0 + 1)]) = encZ (laterOf m places) := by simp [encZ, laterOf]
  rw [el]
  refine ExA.cons' <| StA.assignM 10 1 rfl rfl (by decide +kernel) (by rfl) rfl (by decide +kernel) <| ItA.list <| EvA.name 9 rfl rfl ⟨_, rfl, [none, none, none, some (.val (encF K.told))], ((List.range (m + 2)).map K.V).map encQ, ⟨⟨rfl, 8, rfl, rfl⟩, trivial⟩, by simp, by simp [laterOf]; omega, by simp [sizeLine]; omega, ?_, ?_⟩
  · intro env' ok' i w hw
    rw [List.map_map] at hw
    obtain ⟨x, hx, rfl⟩ := list_get hw
    have hi := (List.getElem?_eq_some_iff.mp hx).1
    have ex : (laterOf m places).getD i 0 = x := by rw [List.getD_eq_getElem?_getD, hx]; rfl
    have hf := K.fat i (by first | with_reducible assumption | with_reducible exact Nat.le_trans ‹_ ≤ 400› (by decide) | with_reducible exact Nat.le_trans ‹_ ≤ 100› (by decide) | with_reducible exact Int.natCast_nonneg _ | with_reducible exact n62 _ | with_reducible exact l62 ‹_ ≤ 400› (by decide) | with_reducible exact l62 ‹_ ≤ 100› (by decide) | omega)
    rw [ex] at hf
    exact EvA.call 2 rfl (H.defs 36 _ dFat.2).at <| ArA.cons <| EvA.name 3 rfl rfl <| ArA.cons <| EvA.tuple <| ArA.cons <| EvA.name 1 rfl rfl <| ArA.cons <| EvA.cint <| ArA.nil ⟨_, rfl, by simp [sizeLine], ArA.nil ⟨_, .val _, rfl, hf, ⟨_, rfl, rfl, rfl, getV (by first | with_reducible assumption | with_reducible exact Nat.le_trans ‹_ ≤ 400› (by decide) | with_reducible exact Nat.le_trans ‹_ ≤ 100› (by decide) | with_reducible exact Int.natCast_nonneg _ | with_reducible exact n62 _ | with_reducible exact l62 ‹_ ≤ 400› (by decide) | with_reducible exact l62 ‹_ ≤ 100› (by decide) | omega)⟩⟩⟩
  intro lv
  refine JdW.frzV 10 (pre := []) rfl ?_
  refine ExA.cons' <| StA.assignN 11 rfl (.inl rfl) <| JdW.frz <| EvA.list <| ArA.cons <| EvA.un <| EvA.cint <| Op1.neg <| ArA.nil ⟨_, rfl, by simp [sizeLine], fun l => ⟨l, _, [], _, rfl, rfl, ?_⟩⟩
  refine ExA.cons' <| StA.for <| ItA.range1 22 rfl H.b_range.1 H.b_range.2 <| EvA.bin <| EvA.name 2 rfl rfl <| EvA.cint <| OpA.add ⟨_, rfl, by omega, by omega, ?_⟩
  refine ⟨(JChecks K o0 o1 o5), ⟨none, none, none, by rw [K.D0]; rfl, rfl⟩, ?_, ?_⟩
  · rintro k w σ μ hw ⟨o12, o13, o14, rfl, rfl⟩
    obtain ⟨k', ek, hkm, rfl⟩ := rng_get hw
    subst ek
    replace hkm : k' ≤ m := by omega
    refine AgA.name 12 rfl (.inl rfl) ?_
    refine ExA.cons' <| StA.for <| ItA.range1 22 rfl H.b_range.1 H.b_range.2 <| EvA.bin <| EvA.name 12 rfl rfl <| EvA.cint <| OpA.add ⟨_, rfl, by omega, by omega, ?_⟩
    refine ⟨(JSpots K o0 o1 o5 k'), ⟨_, _, rfl, rfl⟩, ?_, ?_⟩
    · rintro s w σ μ hw ⟨o13, o14, rfl, rfl⟩
      obtain ⟨s', es, hsk, rfl⟩ := rng_get hw
      subst es
      replace hsk : s' ≤ k' := by omega
      obtain ⟨z1, z2, z3⟩ := K.zok k' s' hsk hkm
      refine AgA.name 13 rfl (.inl rfl) ?_
      refine ExA.cons' <| StA.assignN 14 rfl (.inl rfl) <| EvA.sub <| EvA.name 10 rfl rfl <| EvA.name 13 rfl rfl <| SubA.at s' (.inl rfl) rfl (getV (by first | with_reducible assumption | with_reducible exact Nat.le_trans ‹_ ≤ 400› (by decide) | with_reducible exact Nat.le_trans ‹_ ≤ 100› (by decide) | with_reducible exact Int.natCast_nonneg _ | with_reducible exact n62 _ | with_reducible exact l62 ‹_ ≤ 400› (by decide) | with_reducible exact l62 ‹_ ≤ 100› (by decide) | omega)) (by first | with_reducible exact lz ‹_ ≤ 400› (by decide) | with_reducible exact lz ‹_ ≤ 100› (by decide) | with_reducible exact lz ‹_ ≤ 50› (by decide) | with_reducible exact lz62 ‹_ ≤ 400› (by decide) | with_reducible exact lz62 ‹_ ≤ 100› (by decide) | with_reducible exact lz62 ‹_ ≤ 50› (by decide) | (simp; omega)) ?_
      refine ExA.cons' <| StA.ite <| TrA.cmp <| EvA.bin <| EvA.call 27 rfl (H.defs 52 _ dZat.2).at <| ArA.cons <| EvA.sub <| EvA.name 6 rfl rfl <| EvA.name 12 rfl rfl <| SubA.at k' (.inl rfl) rfl (encZs_getI (by first | with_reducible assumption | with_reducible exact Nat.le_trans ‹_ ≤ 400› (by decide) | with_reducible exact Nat.le_trans ‹_ ≤ 100› (by decide) | with_reducible exact Int.natCast_nonneg _ | with_reducible exact n62 _ | with_reducible exact l62 ‹_ ≤ 400› (by decide) | with_reducible exact l62 ‹_ ≤ 100› (by decide) | omega)) (by rw [encZs_len]; omega) <| ArA.cons <| EvA.sub <| EvA.name 3 rfl rfl <| EvA.name 13 rfl rfl <| SubA.at s' (.inl rfl) rfl (getZ (gZ (by first | with_reducible assumption | with_reducible exact Nat.le_trans ‹_ ≤ 400› (by decide) | with_reducible exact Nat.le_trans ‹_ ≤ 100› (by decide) | with_reducible exact Int.natCast_nonneg _ | with_reducible exact n62 _ | with_reducible exact l62 ‹_ ≤ 400› (by decide) | with_reducible exact l62 ‹_ ≤ 100› (by decide) | omega))) (by first | with_reducible exact lz ‹_ ≤ 400› (by decide) | with_reducible exact lz ‹_ ≤ 100› (by decide) | with_reducible exact lz ‹_ ≤ 50› (by decide) | with_reducible exact lz62 ‹_ ≤ 400› (by decide) | with_reducible exact lz62 ‹_ ≤ 100› (by decide) | with_reducible exact lz62 ‹_ ≤ 50› (by decide) | (rw [List.length_map]; omega)) <| ArA.nil ⟨_, _, rfl, K.zt k' s' hsk hkm, EvA.den 14 rfl rfl <| OpA.mul z1 ?_⟩
      refine EvA.bin <| EvA.call 27 rfl (H.defs 52 _ dZat.2).at <| ArA.cons <| EvA.sub <| EvA.name 7 rfl rfl <| EvA.name 12 rfl rfl <| SubA.at k' (.inl rfl) rfl (encZs_getI (by first | with_reducible assumption | with_reducible exact Nat.le_trans ‹_ ≤ 400› (by decide) | with_reducible exact Nat.le_trans ‹_ ≤ 100› (by decide) | with_reducible exact Int.natCast_nonneg _ | with_reducible exact n62 _ | with_reducible exact l62 ‹_ ≤ 400› (by decide) | with_reducible exact l62 ‹_ ≤ 100› (by decide) | omega)) (by rw [encZs_len]; omega) <| ArA.cons <| EvA.sub <| EvA.name 3 rfl rfl <| EvA.name 13 rfl rfl <| SubA.at s' (.inl rfl) rfl (getZ (gZ (by first | with_reducible assumption | with_reducible exact Nat.le_trans ‹_ ≤ 400› (by decide) | with_reducible exact Nat.le_trans ‹_ ≤ 100› (by decide) | with_reducible exact Int.natCast_nonneg _ | with_reducible exact n62 _ | with_reducible exact l62 ‹_ ≤ 400› (by decide) | with_reducible exact l62 ‹_ ≤ 100› (by decide) | omega))) (by first | with_reducible exact lz ‹_ ≤ 400› (by decide) | with_reducible exact lz ‹_ ≤ 100› (by decide) | with_reducible exact lz ‹_ ≤ 50› (by decide) | with_reducible exact lz62 ‹_ ≤ 400› (by decide) | with_reducible exact lz62 ‹_ ≤ 100› (by decide) | with_reducible exact lz62 ‹_ ≤ 50› (by decide) | (rw [List.length_map]; omega)) <| ArA.nil ⟨_, _, rfl, K.zb k' s' hsk hkm, EvA.num 14 rfl rfl <| OpA.mul z2 <| OpA.ne (by simp [PyData.depth]) ⟨_, rfl, ?_⟩⟩
      rw [eqv_int, decide_eq_true z3]
      exact ExA.nil <| ExA.nil ⟨_, _, rfl, rfl⟩
    · rintro σ μ ⟨o13, o14, rfl, rfl⟩
      refine ExA.cons' <| StA.ite <| TrA.cmp <| EvA.name 12 rfl rfl <| EvA.cint <| OpA.gt ⟨_, rfl, ?_⟩
      rw [decide_nat_succ]
      cases k' with
      | zero =>
        refine ExA.nil <| ExA.nil ⟨_, _, _, rfl, rfl⟩
      | succ j =>
        rw [decide_eq_true (by first | with_reducible assumption | with_reducible exact Nat.le_trans ‹_ ≤ 400› (by decide) | with_reducible exact Nat.le_trans ‹_ ≤ 100› (by decide) | with_reducible exact Int.natCast_nonneg _ | with_reducible exact n62 _ | with_reducible exact l62 ‹_ ≤ 400› (by decide) | with_reducible exact l62 ‹_ ≤ 100› (by decide) | omega)]
        have hj : j < m := by omega
        have e1 : ((j + 1 : Nat) : Int) - 1 = (j : Int) := by omega
        have c1 := K.d1 j hj
        refine ExA.cons' <| StA.assignN 11 rfl (.inl rfl) <| EvA.call 28 rfl (H.defs 50 _ dZscale.2).at <| ArA.cons <| EvA.call 29 rfl (H.defs 51 _ dZmul.2).at <| ArA.cons <| EvA.name 11 rfl rfl <| ArA.cons <| JdW.frz <| EvA.list <| ArA.cons <| EvA.bin <| EvA.cint <| EvA.sub <| EvA.name 3 rfl rfl <| EvA.bin <| EvA.name 12 rfl rfl <| EvA.cint <| OpA.sub <| SubA.at j (.inl rfl) e1 (getZ (gZ (by first | with_reducible assumption | with_reducible exact Nat.le_trans ‹_ ≤ 400› (by decide) | with_reducible exact Nat.le_trans ‹_ ≤ 100› (by decide) | with_reducible exact Int.natCast_nonneg _ | with_reducible exact n62 _ | with_reducible exact l62 ‹_ ≤ 400› (by decide) | with_reducible exact l62 ‹_ ≤ 100› (by decide) | omega))) (by first | with_reducible exact lz ‹_ ≤ 400› (by decide) | with_reducible exact lz ‹_ ≤ 100› (by decide) | with_reducible exact lz ‹_ ≤ 50› (by decide) | with_reducible exact lz62 ‹_ ≤ 400› (by decide) | with_reducible exact lz62 ‹_ ≤ 100› (by decide) | with_reducible exact lz62 ‹_ ≤ 50› (by decide) | (rw [List.length_map]; omega)) <| OpA.sub <| ArA.cons <| EvA.cint <| ArA.nil ⟨_, rfl, by simp [sizeLine], fun l => ⟨l, _, [], _, rfl, rfl, ?_⟩⟩
        refine ArA.nil ⟨_, .val _, rfl, c1, ?_⟩
        refine ArA.cons <| EvA.un <| EvA.cint <| Op1.neg <| ArA.nil ⟨_, .val _, rfl, K.d2 j hj, ?_⟩
        refine ExA.cons' <| StA.ite <| TrA.cmp <| EvA.call 30 rfl (H.defs 49 _ dZsub.2).at <| ArA.cons <| EvA.call 29 rfl (H.defs 51 _ dZmul.2).at <| ArA.cons <| EvA.sub <| EvA.name 6 rfl rfl <| EvA.name 12 rfl rfl <| SubA.at (j + 1) (.inl rfl) rfl (encZs_getI (by first | with_reducible assumption | with_reducible exact Nat.le_trans ‹_ ≤ 400› (by decide) | with_reducible exact Nat.le_trans ‹_ ≤ 100› (by decide) | with_reducible exact Int.natCast_nonneg _ | with_reducible exact n62 _ | with_reducible exact l62 ‹_ ≤ 400› (by decide) | with_reducible exact l62 ‹_ ≤ 100› (by decide) | omega)) (by rw [encZs_len]; omega) <| ArA.cons <| EvA.sub <| EvA.name 7 rfl rfl <| EvA.bin <| EvA.name 12 rfl rfl <| EvA.cint <| OpA.sub <| SubA.at j (.inl rfl) e1 (encZs_getI (by first | with_reducible assumption | with_reducible exact Nat.le_trans ‹_ ≤ 400› (by decide) | with_reducible exact Nat.le_trans ‹_ ≤ 100› (by decide) | with_reducible exact Int.natCast_nonneg _ | with_reducible exact n62 _ | with_reducible exact l62 ‹_ ≤ 400› (by decide) | with_reducible exact l62 ‹_ ≤ 100› (by decide) | omega)) (by rw [encZs_len]; omega) <| ArA.nil ⟨_, .val _, rfl, K.d3 j hj, ?_⟩
        refine ArA.cons <| EvA.call 29 rfl (H.defs 51 _ dZmul.2).at <| ArA.cons <| EvA.sub <| EvA.name 6 rfl rfl <| EvA.bin <| EvA.name 12 rfl rfl <| EvA.cint <| OpA.sub <| SubA.at j (.inl rfl) e1 (encZs_getI (by first | with_reducible assumption | with_reducible exact Nat.le_trans ‹_ ≤ 400› (by decide) | with_reducible exact Nat.le_trans ‹_ ≤ 100› (by decide) | with_reducible exact Int.natCast_nonneg _ | with_reducible exact n62 _ | with_reducible exact l62 ‹_ ≤ 400› (by decide) | with_reducible exact l62 ‹_ ≤ 100› (by decide) | omega)) (by rw [encZs_len]; omega) <| ArA.cons <| EvA.sub <| EvA.name 7 rfl rfl <| EvA.name 12 rfl rfl <| SubA.at (j + 1) (.inl rfl) rfl (encZs_getI (by first | with_reducible assumption | with_reducible exact Nat.le_trans ‹_ ≤ 400› (by decide) | with_reducible exact Nat.le_trans ‹_ ≤ 100› (by decide) | with_reducible exact Int.natCast_nonneg _ | with_reducible exact n62 _ | with_reducible exact l62 ‹_ ≤ 400› (by decide) | with_reducible exact l62 ‹_ ≤ 100› (by decide) | omega)) (by rw [encZs_len]; omega) <| ArA.nil ⟨_, .val _, rfl, K.d4 j hj, ?_⟩
        refine ArA.nil ⟨_, .val _, rfl, K.d5 j hj, EvA.name 11 rfl rfl <| OpA.ne (by have := depth_encZ (K.D (j + 1)); omega) ⟨_, rfl, ?_⟩⟩
        rw [eqv_encZ]
        exact ExA.nil <| ExA.nil <| ExA.nil ⟨_, _, _, rfl, rfl⟩
  · rintro σ μ ⟨o12, o13, o14, rfl, rfl⟩
    exact P _ _ _ _ _ _ _
end Mine
end
section
open PySem PySem.W PySem.Calls PyProof.Rows
set_option linter.unusedVariables false
namespace Mine
set_option maxRecDepth 100000

theorem takeV {V : Nat → Rat} {n k : Nat} (h : k ≤ n) : (((List.range n).map V).map encQ).take k = ((List.range k).map V).map encQ := by
  rw [← List.map_take, ← List.map_take, List.take_range, Nat.min_eq_left h]

inductive JRows {C : Cx} {m : Nat} {nums places : Z} (K : LawOk C m nums places) (o0 o1 o5 o11 o12 o13 o14 : Option WV) (above below : Nat) (i : Nat) (σ : Sg) (μ : Mu) : Prop
  | mk (o18 o19 o20 : Option WV) (h1 : σ = [o0, o1, some (.val (.int m)), some (.val (encZ places)), some (.val (encZ nums)), o5, some (.val (.list (encZs K.tops (m + 1)))), some (.val (.list (encZs K.bots (m + 1)))), some (.val (encF K.told)), some (.val (encZ (laterOf m places))), some (.val (encP ((List.range (m + 2)).map K.V))), o11, o12, o13, o14, some (.val (.int above)), some (.val (.int below)), some (.val (encM K.free)), o18, o19, o20, none, none, none, none, none, none, none, none, none, none, none, none, none, none, none]) (h2 : μ = [])
set_option maxHeartbeats 4000000 in
theorem law_third {C : Cx} (H : Facts C) (env : Env) (ok : EnvOk dLaw.1.scope.names env) {m : Nat} {nums places : Z} (G : Good m nums places) (K : LawOk C m nums places) : ThirdOk C env ok m nums places K := by
  intro o0 o1 o5 o11 o12 o13 o14
  have hm2 := G.m2
  have hm4 := G.m4
  have lnn := G.ln
  have lpp := G.lp
  have hlen := laterLen lpp
  have ptk : ∀ (xs : List PyData) (j : Nat), pick xs none (some (j : Int)) = xs.take j := fun xs j => pick_to j
  have pdr : ∀ (xs : List PyData) (j : Nat), pick xs (some (j : Int)) none = xs.drop j := fun xs j => pick_from j
  refine ExA.cons' <| StA.ite <| TrA.cmp <| EvA.call 31 rfl (H.defs 57 _ dBack.2).at <| ArA.cons <| EvA.name 10 rfl rfl <| ArA.cons <| EvA.name 9 rfl rfl <| ArA.cons <| EvA.name 2 rfl rfl <| ArA.nil ⟨_, _, rfl, K.back, ?_⟩
  refine JdW.frz <| EvA.compM 1 rfl (by decide +kernel) (by rfl) <| ItA.list <| JdW.frz <| EvA.bin <| JdW.frz <| EvA.slice <| EvA.name 4 rfl rfl <| PtA.no <| PtA.yes <| EvA.name 2 rfl rfl ⟨_, rfl, _, .inl rfl, by simp [sizeLine]; omega, fun l => ⟨l, _, [], _, rfl, rfl, ?_⟩⟩
  rw [ptk]
  refine JdW.frz <| EvA.bin <| JdW.frz <| EvA.list <| ArA.cons <| EvA.sub <| EvA.name 4 rfl rfl <| EvA.name 2 rfl rfl <| SubA.at m (.inl rfl) rfl (getZ (gZ (by first | with_reducible assumption | with_reducible exact Nat.le_trans ‹_ ≤ 400› (by decide) | with_reducible exact Nat.le_trans ‹_ ≤ 100› (by decide) | with_reducible exact Int.natCast_nonneg _ | with_reducible exact n62 _ | with_reducible exact l62 ‹_ ≤ 400› (by decide) | with_reducible exact l62 ‹_ ≤ 100› (by decide) | omega))) (by first | with_reducible exact lz ‹_ ≤ 400› (by decide) | with_reducible exact lz ‹_ ≤ 100› (by decide) | with_reducible exact lz ‹_ ≤ 50› (by decide) | with_reducible exact lz62 ‹_ ≤ 400› (by decide) | with_reducible exact lz62 ‹_ ≤ 100› (by decide) | with_reducible exact lz62 ‹_ ≤ 50› (by decide) | (rw [List.length_map]; omega)) <| ArA.nil ⟨_, rfl, by simp [sizeLine], fun l => ⟨l, _, [], _, rfl, rfl, ?_⟩⟩
  refine EvA.cint <| OpA.mulL (.inl rfl) (by first | with_reducible assumption | with_reducible exact Nat.le_trans ‹_ ≤ 400› (by decide) | with_reducible exact Nat.le_trans ‹_ ≤ 100› (by decide) | with_reducible exact Int.natCast_nonneg _ | with_reducible exact n62 _ | with_reducible exact l62 ‹_ ≤ 400› (by decide) | with_reducible exact l62 ‹_ ≤ 100› (by decide) | omega) (by first | with_reducible assumption | with_reducible exact Nat.le_trans ‹_ ≤ 400› (by decide) | with_reducible exact Nat.le_trans ‹_ ≤ 100› (by decide) | with_reducible exact Int.natCast_nonneg _ | with_reducible exact n62 _ | with_reducible exact l62 ‹_ ≤ 400› (by decide) | with_reducible exact l62 ‹_ ≤ 100› (by decide) | omega) (by simp) fun l => ⟨l, _, [], _, rfl, rfl, ?_⟩
  refine OpA.addL (.inl rfl) (.inl rfl) (by first | with_reducible exact lzs ‹_ ≤ 400› (by decide) | with_reducible exact lzs ‹_ ≤ 100› (by decide) | with_reducible exact lzs ‹_ ≤ 50› (by decide) | (simp [sizeLine]; omega)) fun l => ⟨l, _, [], _, rfl, rfl, ?_⟩
  have e1 : (nums.map PyData.int).take m ++ (List.replicate (2 : Int).toNat [PyData.int (nums.getD m 0)]).flatten = (nums.take m ++ [nums.getD m 0, nums.getD m 0]).map .int := by simp [List.map_take]
  rw [e1]
  refine ⟨_, rfl, [none, none], (fromZ (nums.take m ++ [nums.getD m 0, nums.getD m 0])).map encQ, trivial, by simp, by simp [fromZ], by simp [sizeLine, fromZ]; omega, ?_, ?_⟩
  · intro env' ok' i w hw
    rw [List.map_map] at hw
    obtain ⟨x, hx, rfl⟩ := list_get hw
    refine EvA.tuple <| ArA.cons <| EvA.name 1 rfl rfl <| ArA.cons <| EvA.cint <| ArA.nil ⟨_, rfl, by simp [sizeLine], ⟨_, rfl, rfl, rfl, ?_⟩⟩
    unfold fromZ
    rw [List.getElem?_map, List.getElem?_map, hx]; rfl
  intro l
  refine ⟨l, _, [], _, rfl, rfl, OpA.ne (Nat.le_trans (Nat.min_le_left _ _) (Nat.le_trans (depth_encP _) (by decide))) ⟨_, rfl, ?_⟩⟩
  have e2 : PyData.eqv (encP (fromZ (nums.take m ++ [nums.getD m 0, nums.getD m 0]))) (.list ((fromZ (nums.take m ++ [nums.getD m 0, nums.getD m 0])).map encQ)) = true := eqv_encP _
  rw [e2]
  refine ExA.nil ?_
  have ha : ((m : Int) + 1).fdiv 2 = (((m + 1) / 2 : Nat) : Int) := by rw [Int.fdiv_eq_ediv_of_nonneg _ (by decide)]; omega
  have hb : (m : Int).fdiv 2 = ((m / 2 : Nat) : Int) := by rw [Int.fdiv_eq_ediv_of_nonneg _ (by decide)]; omega
  refine ExA.cons' <| StA.assignW 15 16 rfl rfl (EvA.tuple <| ArA.cons <| EvA.bin <| EvA.bin <| EvA.name 2 rfl rfl <| EvA.cint <| OpA.add <| EvA.cint <| OpA.fdiv (by decide) <| ArA.cons <| EvA.bin <| EvA.name 2 rfl rfl <| EvA.cint <| OpA.fdiv (by decide) <| ArA.nil ⟨_, rfl, by simp [sizeLine], _, _, rfl, ?_⟩) (swapped_yes (i := 15) (j := 16) rfl rfl (by decide) rfl rfl rfl rfl)
  rw [ha, hb]
  have hab : (m + 1) / 2 ≤ 3 := by omega
  have kl := K.dlines
  have krows := K.rows
  have kends := K.ends
  generalize hA : (m + 1) / 2 = above at *
  generalize hB : m / 2 = below at *
  have em1 : (m : Int) + 1 = ((m + 1 : Nat) : Int) := by omega
  refine ExA.cons' <| StA.assignN 17 rfl (.inl rfl) <| EvA.call 32 rfl (H.defs 44 _ dNull.2).at <| ArA.cons <| EvA.call 33 rfl (H.defs 58 _ dLines.2).at <| ArA.cons <| JdW.frz <| EvA.slice <| EvA.name 10 rfl rfl <| PtA.no <| PtA.yes <| EvA.bin <| EvA.name 2 rfl rfl <| EvA.cint <| OpA.add ⟨_, rfl, _, .inl rfl, by simp [sizeLine]; omega, fun l => ⟨l, _, [], _, rfl, rfl, ?_⟩⟩
  rw [em1, ptk, takeV (by first | with_reducible assumption | with_reducible exact Nat.le_trans ‹_ ≤ 400› (by decide) | with_reducible exact Nat.le_trans ‹_ ≤ 100› (by decide) | with_reducible exact Int.natCast_nonneg _ | with_reducible exact n62 _ | with_reducible exact l62 ‹_ ≤ 400› (by decide) | with_reducible exact l62 ‹_ ≤ 100› (by decide) | omega)]
  refine ArA.cons <| EvA.name 3 rfl rfl <| ArA.cons <| EvA.name 15 rfl rfl <| ArA.cons <| EvA.name 16 rfl rfl <| ArA.nil ⟨_, .val _, rfl, kl, ArA.nil ⟨_, _, rfl, K.dfree, ?_⟩⟩
  refine ExA.cons' <| StA.for <| ItA.list <| EvA.name 17 rfl rfl ⟨_, rfl, ?_⟩
  refine ⟨(JRows K o0 o1 o5 o11 o12 o13 o14 above below), ⟨none, none, none, rfl, rfl⟩, ?_, ?_⟩
  · rintro i w σ μ hw ⟨o18, o19, o20, rfl, rfl⟩
    rw [List.map_map] at hw
    obtain ⟨r, hr, rfl⟩ := list_get hw
    obtain ⟨r1, r2, r3⟩ := krows r (List.mem_of_getElem? hr)
    have ea1 : (above : Int) + 1 = ((above + 1 : Nat) : Int) := by omega
    refine AgA.name 18 rfl (.inl rfl) ?_
    refine ExA.cons' <| StA.assignW 19 20 rfl rfl (EvA.tuple <| ArA.cons <| EvA.call 34 rfl (H.defs 15 _ dQtrim.2).at <| ArA.cons <| JdW.frz <| EvA.slice <| EvA.name 18 rfl rfl <| PtA.no <| PtA.yes <| EvA.bin <| EvA.name 15 rfl rfl <| EvA.cint <| OpA.add ⟨_, rfl, _, .inl rfl, by rw [List.length_map]; exact Nat.le_trans r1 (by decide), fun l => ⟨l, _, [], _, rfl, rfl, ?_⟩⟩) (swapped_yes (i := 19) (j := 20) rfl rfl (by decide) rfl rfl rfl rfl)
    rw [ea1, ptk, ← List.map_take]
    have q1 := (qtrim_spec H (p := r.take (above + 1)) (by first | with_reducible exact lz ‹_ ≤ 400› (by decide) | with_reducible exact lz ‹_ ≤ 100› (by decide) | with_reducible exact lz ‹_ ≤ 50› (by decide) | with_reducible exact lz62 ‹_ ≤ 400› (by decide) | with_reducible exact lz62 ‹_ ≤ 100› (by decide) | with_reducible exact lz62 ‹_ ≤ 50› (by decide) | (simp; omega))).le (show 1 ≤ 10 by decide)
    have q2 := (qtrim_spec H (p := r.drop (above + 1)) (by first | with_reducible exact lz ‹_ ≤ 400› (by decide) | with_reducible exact lz ‹_ ≤ 100› (by decide) | with_reducible exact lz ‹_ ≤ 50› (by decide) | with_reducible exact lz62 ‹_ ≤ 400› (by decide) | with_reducible exact lz62 ‹_ ≤ 100› (by decide) | with_reducible exact lz62 ‹_ ≤ 50› (by decide) | (simp; omega))).le (show 1 ≤ 10 by decide)
    refine ArA.nil ⟨_, .val _, rfl, q1, ?_⟩
    refine ArA.cons <| EvA.call 34 rfl (H.defs 15 _ dQtrim.2).at <| ArA.cons <| JdW.frz <| EvA.slice <| EvA.name 18 rfl rfl <| PtA.yes <| EvA.bin <| EvA.name 15 rfl rfl <| EvA.cint <| OpA.add ⟨_, rfl, PtA.no ⟨_, .inl rfl, by rw [List.length_map]; exact Nat.le_trans r1 (by decide), fun l => ⟨l, _, [], _, rfl, rfl, ?_⟩⟩⟩
    rw [ea1, pdr, ← List.map_drop]
    refine ArA.nil ⟨_, .val _, rfl, q2, ArA.nil ⟨_, rfl, by simp [sizeLine], _, _, rfl, ?_⟩⟩
    refine ExA.cons' <| StA.ite <| TrA.or_cons <| TrA.cmp <| EvA.name 20 rfl rfl <| JdW.frz <| EvA.list <| ArA.nil ⟨_, rfl, by simp, fun l => ⟨l, _, [], _, rfl, rfl, OpA.eq (depth_encP_min _) ⟨_, rfl, ?_⟩⟩⟩
    rw [eqv_nil, decide_eq_false r2]
    refine TrA.or_cons <| TrA.cmp <| EvA.call 25 rfl (H.defs 31 _ dFmake.2).at <| ArA.cons <| EvA.name 19 rfl rfl <| ArA.cons <| EvA.name 20 rfl rfl <| ArA.nil ⟨_, .val _, rfl, r3, EvA.name 8 rfl rfl <| OpA.ne (by have := depth_encF K.told; omega) ⟨_, rfl, ?_⟩⟩
    rw [eqv_encF]
    exact TrA.or_nil <| ExA.nil <| ExA.nil ⟨_, _, _, rfl, rfl⟩
  · rintro σ μ ⟨o18, o19, o20, rfl, rfl⟩
    obtain ⟨lf1, lf2⟩ := K.lfree
    obtain ⟨lt, lb⟩ := kends
    have c1 : decide (((0 : Int)) < ((K.free.map encP).length : Int)) = true := by rw [List.length_map]; exact decide_eq_true (by first | with_reducible assumption | with_reducible exact Nat.le_trans ‹_ ≤ 400› (by decide) | with_reducible exact Nat.le_trans ‹_ ≤ 100› (by decide) | with_reducible exact Int.natCast_nonneg _ | with_reducible exact n62 _ | with_reducible exact l62 ‹_ ≤ 400› (by decide) | with_reducible exact l62 ‹_ ≤ 100› (by decide) | omega)
    refine ExA.cons' <| StA.ret <| EvA.and_cons <| EvA.cmp <| EvA.callB 35 rfl H.b_len.1 H.b_len.2 <| ArA.cons <| EvA.name 17 rfl rfl <| ArA.nil <| ClA.len_list (.inl rfl) (by first | with_reducible exact lz ‹_ ≤ 400› (by decide) | with_reducible exact lz ‹_ ≤ 100› (by decide) | with_reducible exact lz ‹_ ≤ 50› (by decide) | with_reducible exact lz62 ‹_ ≤ 400› (by decide) | with_reducible exact lz62 ‹_ ≤ 100› (by decide) | with_reducible exact lz62 ‹_ ≤ 50› (by decide) | (rw [List.length_map]; omega)) <| EvA.cint <| OpA.gt ⟨_, rfl, ?_⟩
    rw [c1]
    refine EvA.and_cons <| EvA.cmp <| EvA.callB 35 rfl H.b_len.1 H.b_len.2 <| ArA.cons <| EvA.sub <| EvA.name 6 rfl rfl <| EvA.name 2 rfl rfl <| SubA.at m (.inl rfl) rfl (encZs_getI (by first | with_reducible assumption | with_reducible exact Nat.le_trans ‹_ ≤ 400› (by decide) | with_reducible exact Nat.le_trans ‹_ ≤ 100› (by decide) | with_reducible exact Int.natCast_nonneg _ | with_reducible exact n62 _ | with_reducible exact l62 ‹_ ≤ 400› (by decide) | with_reducible exact l62 ‹_ ≤ 100› (by decide) | omega)) (by rw [encZs_len]; omega) <| ArA.nil <| ClA.len_list (.inl rfl) (by first | with_reducible exact lz ‹_ ≤ 400› (by decide) | with_reducible exact lz ‹_ ≤ 100› (by decide) | with_reducible exact lz ‹_ ≤ 50› (by decide) | with_reducible exact lz62 ‹_ ≤ 400› (by decide) | with_reducible exact lz62 ‹_ ≤ 100› (by decide) | with_reducible exact lz62 ‹_ ≤ 50› (by decide) | (rw [List.length_map]; omega)) <| EvA.bin <| EvA.name 15 rfl rfl <| EvA.cint <| OpA.add <| OpA.le ⟨_, rfl, ?_⟩
    rw [decide_eq_true (by first | with_reducible exact lz ‹_ ≤ 400› (by decide) | with_reducible exact lz ‹_ ≤ 100› (by decide) | with_reducible exact lz ‹_ ≤ 50› (by decide) | with_reducible exact lz62 ‹_ ≤ 400› (by decide) | with_reducible exact lz62 ‹_ ≤ 100› (by decide) | with_reducible exact lz62 ‹_ ≤ 50› (by decide) | (rw [List.length_map]; omega))]
    refine EvA.and_one <| EvA.cmp <| EvA.callB 35 rfl H.b_len.1 H.b_len.2 <| ArA.cons <| EvA.sub <| EvA.name 7 rfl rfl <| EvA.name 2 rfl rfl <| SubA.at m (.inl rfl) rfl (encZs_getI (by first | with_reducible assumption | with_reducible exact Nat.le_trans ‹_ ≤ 400› (by decide) | with_reducible exact Nat.le_trans ‹_ ≤ 100› (by decide) | with_reducible exact Int.natCast_nonneg _ | with_reducible exact n62 _ | with_reducible exact l62 ‹_ ≤ 400› (by decide) | with_reducible exact l62 ‹_ ≤ 100› (by decide) | omega)) (by rw [encZs_len]; omega) <| ArA.nil <| ClA.len_list (.inl rfl) (by first | with_reducible exact lz ‹_ ≤ 400› (by decide) | with_reducible exact lz ‹_ ≤ 100› (by decide) | with_reducible exact lz ‹_ ≤ 50› (by decide) | with_reducible exact lz62 ‹_ ≤ 400› (by decide) | with_reducible exact lz62 ‹_ ≤ 100› (by decide) | with_reducible exact lz62 ‹_ ≤ 50› (by decide) | (rw [List.length_map]; omega)) <| EvA.bin <| EvA.name 16 rfl rfl <| EvA.cint <| OpA.add <| OpA.le ?_
    rw [decide_eq_true (by first | with_reducible exact lz ‹_ ≤ 400› (by decide) | with_reducible exact lz ‹_ ≤ 100› (by decide) | with_reducible exact lz ‹_ ≤ 50› (by decide) | with_reducible exact lz62 ‹_ ≤ 400› (by decide) | with_reducible exact lz62 ‹_ ≤ 100› (by decide) | with_reducible exact lz62 ‹_ ≤ 50› (by decide) | (rw [List.length_map]; omega))]

theorem law_spec {C : Cx} (H : Facts C) (P : ∀ m nums places, Good m nums places → LawOk C m nums places) {cells : Z} (hc : cells.length ≤ 100) (env : Env) (ok : EnvOk dLaw.1.scope.names env) :
    ExA C ⟨dLaw.1.scope.names, env, 10, ok⟩ dLaw.1.body [some (.val (encZ cells)), none, none, none, none, none, none, none, none, none, none, none, none, none, none, none, none, none, none, none, none, none, none, none, none, none, none, none, none, none, none, none, none, none, none, none] [] (fun f σ μ => f = .ret (.val (.bool true))) :=
  law_first H hc env ok fun m nums places o0 o1 o5 G => law_second H env ok G (P m nums places G) (law_third H env ok G _) o0 o1 o5
end Mine
end
section
open PySem PySem.W PySem.Calls PyProof.Rows
set_option linter.unusedVariables false
namespace Mine
set_option maxRecDepth 100000

/-! ## The head: the program's top, by one check of its whole run -/
noncomputable def keepIx : List Nat := (List.range 60).filter fun i => !([0, 2, 4, 14, 29, 37, 43, 45, 53].contains i)
/-- the program less its rows of __name__ -/
noncomputable def vw : Program := view prog keepIx
/-- the objects of R0, R1 and F0 -/
noncomputable def kF : Frag := [(42, { cls := Value.type "tuple", data := Data.seq #[Value.int 0 232, Value.int 1 233] }), (43, { cls := Value.type "tuple", data := Data.seq #[Value.int 1 235, Value.int 1 236] }),
  (183, { cls := Value.type "list", data := Data.seq #[] }), (184, { cls := Value.type "list", data := Data.seq #[Value.ref 43] }), (185, { cls := Value.type "tuple", data := Data.seq #[Value.ref 183, Value.ref 184] })]
noncomputable def hk0 : Hook := kHook (fun _ => kF) [42, 43, 183, 184, 185] (fun _ => by kernel_rfl)
noncomputable def saysF (h : Heap) : Prop := ∃ m, h.Ns mainGlobals m ∧ m (Str.ofString "R0") = some (.ref 42) ∧ m (Str.ofString "R1") = some (.ref 43) ∧ m (Str.ofString "F0") = some (.ref 185)
noncomputable def hkF : Hook where
  α := hk0.α × Bool × Option Value × Option Value × Option Value
  obs s := (hk0.obs s, s.heap.isNs mainGlobals, s.heap.nsMap mainGlobals (Str.ofString "R0"), s.heap.nsMap mainGlobals (Str.ofString "R1"), s.heap.nsMap mainGlobals (Str.ofString "F0"))
  val w := (hk0.val w, true, some (.ref 42), some (.ref 43), some (.ref 185))
  says w h := kF.In h ∧ saysF h
  of w s e := by
    obtain ⟨e1, e2, e3, e4, e5⟩ : _ ∧ _ ∧ _ ∧ _ ∧ _ := by simpa only [Prod.mk.injEq] using e
    exact ⟨hk0.of w s e1, _, .of_isNs e2, e3, e4, e5⟩
  keeps w h h' x k := ⟨hk0.keeps w h h' x.1 k, let ⟨m, a, b⟩ := x.2; ⟨m, a.keeps k, b⟩⟩
noncomputable abbrev lw : OpenLaw := PySem.Challenge.rw_xm0144_01
noncomputable abbrev xtF : Shared → Bool := fun s => xlAt vw [] s && recOk (RowW.records lw.row.toRowW) s
/-- the run of the top over a tree of objects, by a step and a test of one's choice -/
noncomputable def topRunG (st : SharedT → Thread → Option (SharedT × Thread)) (ok : Thread → Bool) : Nat → SharedT → Thread → Option SharedT
  | 0, _, _ => none
  | n + 1, s, t => match through t with
    | true => some s
    | false => match ok t with
      | false => none
      | true => match st s t with
        | some (s', t') => topRunG st ok n s' t'
        | none => none
theorem topRunG_spec {tb : String → Option Builtin} {p : Program} {w : World} {n₀ : Nat} {ann : Option Value} : ∀ {n : Nat} {s s' : SharedT} {t : Thread}, topRunG (stepT (denote tb) p w) (stepOk n₀ ann) n s t = some s' → topRun tb p w n₀ ann n s.abs t = some s'.abs
  | 0, _, _, _, h => by cases h
  | n + 1, s, s', t, h => by
    unfold topRunG at h
    unfold topRun
    cases ht : through t with
    | true => rw [ht] at h; cases h; rfl
    | false =>
      rw [ht] at h
      cases hk : stepOk n₀ ann t with
      | false => rw [hk] at h; cases h
      | true =>
        rw [hk] at h
        cases hs : stepT (denote tb) p w s t with
        | none => rw [hs] at h; cases h
        | some r => obtain ⟨s₂, t₂⟩ := r; rw [hs] at h; rw [stepT_spec hs]; exact topRunG_spec h
noncomputable def growT (l : List Obj) : BT × Nat := l.foldl (fun x o => (x.1.ins x.2 o, x.2 + 1)) (BT.nil, 0)
noncomputable def t0 (w : World) (os : OsState) : SharedT := ⟨(growT (boot_heap w.params).objs.toList).1, 11, (boot_heap w.params).life, Array.mk [], boot_drawn, boot_toks, os⟩
theorem bootN (P : Params) : (boot_heap P).objs.size = 11 := by kernel_rfl
theorem bootEq (w : World) (os : OsState) : (t0 w os).abs = ⟨boot_heap w.params, Array.mk [], boot_drawn, boot_toks, os⟩ := by kernel_rfl
theorem bootS (w : World) : ((boot_heap w.params).isNs mainGlobals && (Array.mk [] : Array GenState).size == 0) = true := by kernel_rfl
noncomputable abbrev annF (w : World) : Option Value := (boot_heap w.params).nsMap mainGlobals "__annotations__"

/-! the library's quick twins of the step, its test, the look at the state and the look at the law -/
theorem quickStep (p : Program) (w : World) : stepT (denote treeTable) p w = PySem.W.Fast.tw10156331382660048174 (PySem.W.Fast.tw11892475500146522536 PySem.W.Fast.tw14364793385576792824) p w := by
  rw [PySem.W.Fast.te10156331382660048174, PySem.W.Fast.te11892475500146522536, PySem.W.Fast.te14364793385576792824]
theorem quickOk (n : Nat) (ann : Option Value) : stepOk n ann = PySem.W.Fast.tw6613529449190102663 n ann := by
  rw [PySem.W.Fast.te6613529449190102663]
theorem quickSeen : @openSeen = @PySem.W.Fast.tw4187177175401517315 := PySem.W.Fast.te4187177175401517315
theorem quickSaid (l : OpenLaw) : l.wellSaid = PySem.W.Fast.tw9446332074065402090 l := by
  rw [PySem.W.Fast.te9446332074065402090]

/-! the run and the looks at its end, in three checks -/
noncomputable abbrev runQ (w : World) (os : OsState) : Option SharedT := topRunG (PySem.W.Fast.tw10156331382660048174 (PySem.W.Fast.tw11892475500146522536 PySem.W.Fast.tw14364793385576792824) lw.row.prog w) (PySem.W.Fast.tw6613529449190102663 11 (annF w)) 3622 (t0 w os) (topStub lw.row.prog)
theorem ranA (w : World) (os : OsState) : (runQ w os).map (fun s => (staticsOk (importedModules lw.row.prog.main.body) (boot_heap w.params) s.abs.heap && namesBound lw.row.prog s.abs.heap && gensDone s.abs && laidKept (boot_heap w.params) s.abs.heap,
    (@PySem.W.Fast.tw4187177175401517315 vw [Str.ofString "F0"] (importedModules lw.row.prog.main.body) xtF true s.abs).1, (@PySem.W.Fast.tw4187177175401517315 vw [Str.ofString "F0"] (importedModules lw.row.prog.main.body) xtF true s.abs).2.1, hkF.obs s.abs)) = some (true, expectedOf vw, bltViewBooted, hkF.val w) := by kernel_rfl
theorem ranB (w : World) (os : OsState) : (runQ w os).map (fun s => ((@PySem.W.Fast.tw4187177175401517315 vw [Str.ofString "F0"] (importedModules lw.row.prog.main.body) xtF true s.abs).2.2.1, (@PySem.W.Fast.tw4187177175401517315 vw [Str.ofString "F0"] (importedModules lw.row.prog.main.body) xtF true s.abs).2.2.2.1)) = some (true, true) := by kernel_rfl
theorem ranC (w : World) (os : OsState) : (runQ w os).map (fun s => (@PySem.W.Fast.tw4187177175401517315 vw [Str.ofString "F0"] (importedModules lw.row.prog.main.body) xtF true s.abs).2.2.2.2) =
    some (pinGoodD (drecsOf vw), plainGoodE vw (looseW vw [Str.ofString "F0"]), plainGoodD vw [Str.ofString "F0"], wideGood vw, clsGoodW vw (looseW vw [Str.ofString "F0"])) := by kernel_rfl
theorem five {A B D E F : Type} {x : A × B × D × E × F} {a : A} {b : B} {d : D} {e : E} {f : F} (h1 : x.1 = a) (h2 : x.2.1 = b) (h3 : x.2.2.1 = d) (h4 : x.2.2.2.1 = e) (h5 : x.2.2.2.2 = f) : x = (a, b, d, e, f) := by
  obtain ⟨_, _, _, _, _⟩ := x
  subst h1 h2 h3 h4 h5
  rfl
theorem map_at {α β : Type} {f : α → β} {o : Option α} {x : α} {y : β} (e : o = some x) (h : o.map f = some y) : f x = y := by
  subst e; exact Option.some.inj h
theorem openA : opening lw.row.prog = plainProg lw.row.prog.main.scope.names := by kernel_rfl
theorem openB (s : Shared) : fenceModules? lw.row.prog s = some s := by kernel_rfl
theorem topFrom_of {tb : String → Option Builtin} {p : Program} {w : World} {N : Nat} {s₀ s₁ : Shared} (h1 : (s₀.heap.isNs mainGlobals && s₀.gens.size == 0) = true) (h2 : topRun tb p w s₀.heap.objs.size (s₀.heap.nsMap mainGlobals "__annotations__") N s₀ (topStub p) = some s₁)
    (h3 : (staticsOk (importedModules p.main.body) s₀.heap s₁.heap && namesBound p s₁.heap && gensDone s₁ && laidKept s₀.heap s₁.heap) = true) : topFrom tb p w N s₀ = some s₁ := by
  unfold topFrom
  rw [h1, h2]
  show (match _ with | true => some s₁ | false => none) = some s₁
  rw [h3]
theorem leftO_of {p q : Program} {loose : List Str} {Xt : Shared → Bool} {α : Type} {Yf : Shared → α} {y : α} {N : Nat} {w : World} {s₀ s₁ : Shared} (e : fencedOpening treeTable p w N = some s₀) (r : topFrom treeTable p w N s₀ = some s₁)
    (l : (openSeen q loose (importedModules p.main.body) Xt true s₁, Yf s₁) = (openGood q loose, y)) : (openEnds treeTable p w N).map (fun s => (openSeen q loose (importedModules p.main.body) Xt true s, Yf s)) = some (openGood q loose, y) := by
  unfold openEnds
  rw [e, Option.bind_some, r, Option.map_some, l]
noncomputable abbrev sB (w : World) (os : OsState) : Shared := ⟨boot_heap w.params, Array.mk [], boot_drawn, boot_toks, os⟩
theorem opened (w : World) : ∃ os, fencedOpening treeTable lw.row.prog w 3622 = some (sB w os) := by
  obtain ⟨⟨h, gs, d, k, os⟩, e, e'⟩ := Option.map_eq_some_iff.mp (boot_open (p := lw.row.prog) (N := 3622) openA (by decide) openB w)
  obtain ⟨rfl, rfl, rfl, rfl⟩ : h = boot_heap w.params ∧ gs = Array.mk [] ∧ d = boot_drawn ∧ k = boot_toks := by simpa using e'
  exact ⟨os, e⟩
theorem ranS (w : World) (os : OsState) : ∃ s', topRun treeTable lw.row.prog w 11 (annF w) 3622 (sB w os) (topStub lw.row.prog) = some s' ∧
    (staticsOk (importedModules lw.row.prog.main.body) (boot_heap w.params) s'.heap && namesBound lw.row.prog s'.heap && gensDone s' && laidKept (boot_heap w.params) s'.heap) = true ∧
    (openSeen vw [Str.ofString "F0"] (importedModules lw.row.prog.main.body) xtF true s', hkF.obs s') = (openGood vw [Str.ofString "F0"], hkF.val w) := by
  have a := ranA w os
  have b := ranB w os
  have c := ranC w os
  unfold runQ at a b c
  rw [← quickStep, ← quickOk, ← quickSeen] at a b c
  obtain ⟨s', r1, a1⟩ := Option.map_eq_some_iff.mp a
  have b1 := map_at r1 b
  have c1 := map_at r1 c
  have r := topRunG_spec r1
  rw [bootEq] at r
  obtain ⟨l1, a2⟩ := Prod.mk.inj a1
  obtain ⟨a2, a3⟩ := Prod.mk.inj a2
  obtain ⟨a3, a4⟩ := Prod.mk.inj a3
  obtain ⟨b1, b2⟩ := Prod.mk.inj b1
  exact ⟨_, r, l1, Prod.ext (five a2 a3 b1 b2 c1) a4⟩
theorem left : LeftO lw.row.prog vw [Str.ofString "F0"] xtF hkF.obs hkF.val 3622 := fun w => by
  obtain ⟨os, e⟩ := opened w
  obtain ⟨s', r, l1, l2⟩ := ranS w os
  exact leftO_of e (topFrom_of (s₀ := sB w os) (bootS w) (by rw [show (sB w os).heap.objs.size = 11 from bootN _]; exact r) l1) l2
theorem said : lw.wellSaid = true := (quickSaid lw).trans (by kernel_rfl)
theorem promised : PySem.Challenge.rw_xm0144_01.row.toRowW.promised := by w_witness2
end Mine
end
section
open PySem PySem.W PySem.Calls PyProof.Rows
set_option linter.unusedVariables false
namespace Mine
set_option maxRecDepth 100000

noncomputable def nthRec (k : Nat) : Option DefRec :=
  match (prog.main.body.drop k) with
  | .FunctionDef n a b _ _ _ sc _ _ pos :: _ => some ⟨n, a, b, sc, pos⟩
  | _ => none
theorem nthRec_of {k : Nat} {d : DefText} (h : nthDef k = some d) : ∃ r : DefRec, nthRec k = some r ∧ r.name = d.name ∧ r.params = d.params ∧ r.body = d.body ∧ r.scope = d.scope := by
  unfold nthDef at h
  unfold nthRec
  split at h
  · first
    | (rename_i heq; rw [heq]; cases h; exact ⟨⟨_, _, _, _, _⟩, rfl, rfl, rfl, rfl, rfl⟩)
    | (cases h; exact ⟨⟨_, _, _, _, _⟩, rfl, rfl, rfl, rfl, rfl⟩)
  · cases h
theorem body_len : prog.main.body.length = 60 := by kernel_rfl
theorem nth_none {k : Nat} (h : 60 ≤ k) : nthDef k = none := by
  unfold nthDef
  rw [List.drop_eq_nil_of_le (by rw [body_len]; exact h)]
noncomputable def recIx : List Nat := (List.range 60).filter fun k => (nthDef k).isSome
theorem recs_all : (recsOf vw).map some = recIx.map nthRec := by kernel_rfl
theorem nth_rec (k : Nat) (d : DefText) (h : nthDef k = some d) : ∃ i : Nat, (recsOf vw)[i]? = nthRec k := by
  have hk : k < 60 := by
    rcases Nat.lt_or_ge k 60 with q | q
    · exact q
    · rw [nth_none q] at h; cases h
  have hm : k ∈ recIx := List.mem_filter.mpr ⟨List.mem_range.mpr hk, by rw [h]; rfl⟩
  obtain ⟨i, hi⟩ := List.getElem?_of_mem hm
  have e := congrArg (fun l => l[i]?) recs_all
  rw [List.getElem?_map, List.getElem?_map, hi] at e
  cases hr : (recsOf vw)[i]? with
  | none => rw [hr] at e; cases e
  | some r => rw [hr] at e; exact ⟨i, hr.trans (Option.some.inj e)⟩
end Mine
end
section
open PySem PySem.W PySem.Calls PyProof.Rows
set_option linter.unusedVariables false
namespace Mine
set_option maxRecDepth 100000

noncomputable def plainDef (d : DefText) : Bool := d.params.defaults.isEmpty && d.scope.kind == .function && !d.scope.isCoroutine && !d.scope.isGenerator
theorem all_plain : ((List.range 60).all fun k => (nthDef k).all plainDef) = true := by decide +kernel
theorem nth_plain {k : Nat} {d : DefText} (h : nthDef k = some d) : plainDef d = true := by
  by_cases hk : k < 60
  · have := List.all_eq_true.mp all_plain k (List.mem_range.mpr hk)
    rw [h] at this
    exact this
  · rw [nth_none (by omega)] at h; cases h

theorem facts_of {C : Cx} (hp : C.p = prog) {cs : List (Str × PyData)} (KX : kF.In C.h₀) (SX : saysF C.h₀)
    (GL : Glob 0 C.mg C.mb (List.map itemOf (recsOf vw)) cs [] (namesW vw [Str.ofString "F0"]) C.h₀) : Facts C := by
  have bi : ∀ {x : Str} {v : Value}, bootBuiltins x = some v → x ∉ namesW vw [Str.ofString "F0"] → x ∉ bootMainNames → x ≠ "__name__" → C.mg x = none ∧ C.mb x = some v :=
    fun h1 h2 h3 h4 => ⟨GL.free _ h2 h3, (GL.builtins _ h4).trans h1⟩
  obtain ⟨m0, hm0, r0, r1, f0⟩ := SX
  have em : m0 = C.mg := ns_unique C.g hm0
  rw [em] at r0 r1 f0
  have o42 : C.h₀.get? 42 = some { cls := Value.type "tuple", data := Data.seq #[Value.int 0 232, Value.int 1 233] } := KX _ _ (by kernel_rfl)
  have o43 : C.h₀.get? 43 = some { cls := Value.type "tuple", data := Data.seq #[Value.int 1 235, Value.int 1 236] } := KX _ _ (by kernel_rfl)
  have o183 : C.h₀.get? 183 = some { cls := Value.type "list", data := Data.seq #[] } := KX _ _ (by kernel_rfl)
  have o184 : C.h₀.get? 184 = some { cls := Value.type "list", data := Data.seq #[Value.ref 43] } := KX _ _ (by kernel_rfl)
  have o185 : C.h₀.get? 185 = some { cls := Value.type "tuple", data := Data.seq #[Value.ref 183, Value.ref 184] } := KX _ _ (by kernel_rfl)
  have d43 : DF (fun b o => C.h₀.get? b = some o) (.ref 43) (.tuple [.int 1, .int 1]) := .tuple o43 rfl rfl (.cons (.int _ _) (.cons (.int _ _) .nil))
  refine ⟨fun k d h => ?_, bi (by decide +kernel) (by decide +kernel) (by decide +kernel) (by decide +kernel), bi (by decide +kernel) (by decide +kernel) (by decide +kernel) (by decide +kernel), bi (by decide +kernel) (by decide +kernel) (by decide +kernel) (by decide +kernel),
    bi (by decide +kernel) (by decide +kernel) (by decide +kernel) (by decide +kernel), bi (by decide +kernel) (by decide +kernel) (by decide +kernel) (by decide +kernel), bi (by decide +kernel) (by decide +kernel) (by decide +kernel) (by decide +kernel), bi (by decide +kernel) (by decide +kernel) (by decide +kernel) (by decide +kernel), bi (by decide +kernel) (by decide +kernel) (by decide +kernel) (by decide +kernel), ?_, ?_, ?_⟩
  · obtain ⟨r, hr, e1, e2, e3, e4⟩ := nthRec_of h
    obtain ⟨i, hi⟩ := nth_rec k d h
    rw [hr] at hi
    have hm : itemOf r ∈ List.map itemOf (recsOf vw) := List.mem_map.mpr ⟨r, List.mem_of_getElem? hi, rfl⟩
    have hpl := nth_plain h
    simp only [plainDef, Bool.and_eq_true, Bool.not_eq_true', List.isEmpty_iff, beq_iff_eq] at hpl
    obtain ⟨⟨⟨p1, p2⟩, p3⟩, p4⟩ := hpl
    obtain ⟨a, c', o, pm, doc, h1, h2, h3, h4, h5, h6⟩ := (GL.made _ hm).plain (by show r.params.defaults = []; rw [e2]; exact p1)
    have h3' : C.mg r.name = some (.ref a) := h3
    have h5' : o.data = .func (docDef r.name r.params r.body r.scope pm (.ref c') doc) := h5
    have h6' : C.h₀.CodeRec (.ref c') r.name := h6
    rw [e1] at h3' h6'
    rw [e1, e2, e3, e4] at h5'
    exact ⟨⟨a, o, pm, _, doc, h3', h4, h5', h6'⟩, p2, p3, p4⟩
  · exact ⟨.ref 42, r0, .tuple o42 rfl rfl (.cons (.int _ _) (.cons (.int _ _) .nil))⟩
  · exact ⟨.ref 43, r1, d43⟩
  · exact ⟨.ref 185, f0, .tuple o185 rfl rfl (.cons (.list o183 rfl rfl .nil) (.cons (.list o184 rfl rfl (.cons d43 .nil)) .nil))⟩
end Mine
end
section
open PySem PySem.W PySem.Calls PyProof.Rows
set_option linter.unusedVariables false
namespace Mine
set_option maxRecDepth 100000

theorem room_caller (fd : FuncData) (L a : Addr) (hco : fd.scope.isCoroutine = false) (hgen : fd.scope.isGenerator = false) (hg : fd.globals = mainGlobals) (hb : fd.builtins = builtinsNs) :
    Room 10 (callerA.deeper (callEnvC fd L a)) := by
  refine ⟨rfl, by show callerA.depth + 1 + 10 ≤ 800; decide +kernel, by show callerA.units + 3 + 8 * 10 ≤ 9000; decide +kernel, callEnvC fd L a, [], rfl, hgen, hco, hb, hg⟩

theorem top_call {C : Cx} {f : Str} {params : Arguments} {body : List Stmt} {scope : Scope} {ds : List PyData} (D : DefOk C f params body scope)
    (hfs : funScope scope.names = true) (hps : parScope (params.args.map (·.arg)) scope.names = true) (hlen : params.args.length = ds.length)
    (hbind : ∀ pm cd doc (vs : List Value), vs.length = params.args.length → bindArgs (docDef f params body scope pm cd doc) ⟨vs, []⟩ = pure ((params.args.map (·.arg)).zip vs))
    (h : ∀ env ok, ExA C ⟨scope.names, env, 10, ok⟩ body (scope.names.map fun p => (((params.args.map (·.arg)).zip (ds.map WV.val)).lookup p.1)) [] (fun f σ μ => f = .ret (.val (.bool true))))
    {a : Addr} (ha : C.mg f = some (.ref a)) {F : Fz} {s : Shared} {vs : List Value} (hbase : ∀ b o, C.h₀.get? b = some o → F b o) (hF : F.sub s.heap) (hD : DFs F vs ds) :
    wpAny (model C.p C.w) callerA (call (.ref a) vs) (fun V s' => (∃ h' tk, s' = { s with heap := h', toks := tk } ∧ (∀ b o, s.heap.get? b = some o → h'.get? b = some o)) ∧ V = .bool true) (fun _ _ => False) s := by
    obtain ⟨a', o, pm, cd, doc, ha', ho, hd, hcd⟩ := D.obj
    have e : a' = a := by rw [ha] at ha'; cases ha'; rfl
    subst e
    have keep0 : ∀ b o, C.h₀.get? b = some o → s.heap.get? b = some o := fun b o e => hF b o (hbase b o e)
    have hvl : vs.length = params.args.length := by rw [hD.length, hlen]
    have hfd : funScope (docDef f params body scope pm cd doc).scope.names = true := hfs
    have hd1 : callerA.depth < recursionLimit := by decide +kernel
    refine wpAny_call (codeAny_call_cells (fd := docDef f params body scope pm cd doc) hd1 (keep0 _ _ ho) hd (C.lim.keeps keep0) (hcd.keeps keep0) rfl (hbind pm cd doc vs hvl) rfl ?_ (fun s₁ X => ?_) D.co D.gen D.kind)
    · intro x hx
      simp only [parScope, Bool.and_eq_true, List.all_eq_true, Bool.or_eq_true, List.contains_iff_mem, decide_eq_true_eq] at hps
      have hn : (scope.names.map (·.1)).Nodup := by simp only [funScope, Bool.and_eq_true, decide_eq_true_eq] at hfs; exact hfs.1
      rcases hps.2 x.1 (List.of_mem_zip hx).1 with q | q
      · exact .inl (lookup_mem hn q)
      · obtain ⟨c, hc⟩ := cellsFrom_mem scope.names (s.heap.objs.size + 1) [] x.1 (.inl q)
        exact .inr ⟨lookup_mem hn q, by show ((cellsFrom (s.heap.objs.size + 1) scope.names []).lookup x.1).isSome = true; rw [hc]; rfl⟩
    · have R := entry_rel (C := C) (Bx := fun b o => s.heap.get? b = some o) D.kind rfl rfl hfd hps hbase hF (WOks.ofVals hD) (by simp [hlen]) (fun _ _ q => q) X
      have ok := callEnv_ok (fd := docDef f params body scope pm cd doc) (L := s.heap.objs.size) (a := a') D.kind rfl rfl hfd
      have hr' := room_caller (docDef f params body scope pm cd doc) s.heap.objs.size a' D.co D.gen rfl rfl
      refine wpAny_mono (h (callEnvC (docDef f params body scope pm cd doc) s.heap.objs.size a') ok _ s _ F s₁ hr' R trivial) (fun fl s' hh => ?_) fun _ _ x => x.elim
      obtain ⟨F', f', σ', μ', n', R', o', rfl⟩ := hh
      obtain ⟨h', tk, rfl⟩ := R'.same
      refine ⟨⟨h', tk, rfl, R'.keepB⟩, ?_⟩
      cases fl with
      | ret V =>
        have o'' : DF F' V (.bool true) := o'
        cases o''; rfl
      | _ => exact o'.elim

theorem ints_df {F : Fz} : ∀ {vs : List Value} {ns : List Int}, IntsAre vs ns → DFs F vs (ns.map .int) := by
  intro vs ns h
  induction h with
  | nil => exact .nil
  | cons n t _ ih => exact .cons (.int n t) ih

set_option maxHeartbeats 8000000 in
theorem holds_of (P : ∀ (C : Cx), Facts C → ∀ m nums places, Good m nums places → LawOk C m nums places) : PySem.Challenge.rw_xm0144_01.Holds := by
  refine holds_law said fun said' => ?_
  refine holds_open (q := vw) (loose := [Str.ofString "F0"]) (Xt := xtF) (XP := XL vw []) (Yf := hkF.obs) (Ya := hkF.val) (YP := hkF.says) (N := 3622) left hkF.of hkF.keeps (fun s e => xl_of s (Bool.and_eq_true_iff.mp e).1) XL.keeps (by rfl) (by rfl) (by rfl) (fun s e => recFacts_of (Bool.and_eq_true_iff.mp e).2) (by rfl) said' (by decide +kernel) ⟨rfl, rfl, rfl, rfl, rfl, by decide +kernel⟩ promised ?_
  intro w s₀ s₁ mg mb G Y fa o pm cd doc dV kV ho hd hcd hD hmg hg args vals as hpre hlay hrd hwl hlo
  have KX : kF.In s₁.heap ∧ saysF s₁.heap := Y
  have V := (Ground.X G).2
  have GL := glob_more (Ground.glob G (by decide +kernel) (by decide +kernel)) V
  refine Ground.open G ?_
  intro T B D TE TW
  wrow_args hpre hlay hrd hwl hlo
  rename_i ns hs hly hLL hrr hll as1 as2 l vs as3 hL ra w1 r0 hI hr hc hcond
  have hmg' : mg (Str.ofString "law") = some (.ref fa) := hmg
  let C : Cx := ⟨prog, w, s₁.heap, mg, mb, GL.nolimit, GL.seer, rfl, GL.g, GL.b⟩
  have H : Facts C := facts_of rfl KX.1 KX.2 GL
  have hlen : ns.length ≤ 100 := by omega
  have key := top_call (C := C) (f := Str.ofString "law") (ds := [encZ ns]) (H.defs 59 _ dLaw.2) (by decide +kernel) (by decide +kernel) (by rfl) (fun pm cd doc vs h => len1 h rfl fun _ => rfl) (fun env ok => law_spec H (P C H) hlen env ok) hmg' (F := fun b o => s₁.heap.get? b = some o) (s := s₁) (vs := [.ref l]) (fun b o e => e) (fun b o e => e) ?_
  · refine wpAny_mono key (fun V s' hh => ?_) (fun _ _ x => x.elim)
    obtain ⟨⟨h', tk, rfl, hk⟩, rfl⟩ := hh
    refine GoodW.toG ⟨.inl ⟨_, .bool true, [], rfl, fun cls => rfl, .bool _, ?_, fun _ => ⟨List.nodup_nil, fun a ha => by cases ha⟩⟩, hk, rfl, hg⟩
    with_unfolding_all rfl
  · obtain ⟨o', ho', hc', n', hd'⟩ := hL
    exact .cons (.list ho' hc' hd' (ints_df hI)) .nil
end Mine
end
section
set_option linter.unusedVariables false
namespace Mine

/-! ### values -/
theorem qat_nil (x : Rat) : qat [] x = 0 := rfl
theorem qat_cons (c : Rat) (t : P) (x : Rat) : qat (c :: t) x = qat t x * x + c := rfl
theorem qat_append (a b : P) (x : Rat) : qat (a ++ b) x = qat a x + x ^ a.length * qat b x := by
  induction a with
  | nil => simp [qat_nil]; grind
  | cons c t ih =>
    rw [List.cons_append, qat_cons, qat_cons, ih, List.length_cons, Rat.pow_succ]; grind
theorem qat_trim (p : P) (x : Rat) : qat (trim 0 p) x = qat p x := by
  induction p with
  | nil => rfl
  | cons a r ih =>
    simp only [trim]
    split
    · rename_i h
      rw [h.1] at ih
      rw [qat_cons, ← ih, h.2]; simp [qat_nil, Rat.add_zero]
    · rw [qat_cons, qat_cons, ih]
theorem range_map_succ {α : Type} (n : Nat) (f : Nat → α) : (List.range (n + 1)).map f = f 0 :: (List.range n).map fun i => f (i + 1) := by
  rw [List.range_succ_eq_map]; simp [Function.comp_def]
theorem qat_left (a : P) (x : Rat) : qat ((List.range a.length).map fun i => a.getD i 0) x = qat a x := by
  congr 1
  apply List.ext_getElem?
  intro i
  by_cases h : i < a.length
  · simp [h]
  · rw [List.getElem?_eq_none (by simp; omega), List.getElem?_eq_none (by omega)]
theorem qat_sum : ∀ (a b : P) (x : Rat), qat ((List.range (max a.length b.length)).map fun i => a.getD i 0 + b.getD i 0) x = qat a x + qat b x
  | [], b, x => by
    have e : (fun i => ([] : P).getD i 0 + b.getD i 0) = fun i => b.getD i 0 := by funext i; simp [Rat.zero_add]
    rw [e, List.length_nil, Nat.zero_max, qat_left, qat_nil]; grind
  | a :: s, [], x => by
    have e : (fun i => (a :: s).getD i 0 + ([] : P).getD i 0) = fun i => (a :: s).getD i 0 := by funext i; simp [Rat.add_zero]
    rw [e, List.length_nil, Nat.max_zero, qat_left, qat_nil]; grind
  | a :: s, b :: t, x => by
    have e : max (a :: s).length (b :: t).length = max s.length t.length + 1 := by simp
    rw [e, range_map_succ, qat_cons, qat_cons, qat_cons]
    have e2 : (fun i => (a :: s).getD (i + 1) 0 + (b :: t).getD (i + 1) 0) = fun i => s.getD i 0 + t.getD i 0 := by funext i; simp
    have e3 : (a :: s).getD 0 0 + (b :: t).getD 0 0 = a + b := by simp
    rw [e2, e3, qat_sum s t x]; grind
theorem qat_qadd (a b : P) (x : Rat) : qat (qadd a b) x = qat a x + qat b x := by
  show qat (trim 0 _) x = _
  rw [qat_trim, qat_sum]
theorem qat_map_mul (p : P) (r x : Rat) : qat (p.map fun c => c * r) x = qat p x * r := by
  induction p with
  | nil => simp [qat_nil]
  | cons c t ih => rw [List.map_cons, qat_cons, qat_cons, ih]; grind
theorem qat_qneg (p : P) (x : Rat) : qat (qneg p) x = -qat p x := by
  unfold qneg
  induction p with
  | nil => simp [qat_nil]
  | cons c t ih => rw [List.map_cons, qat_cons, qat_cons, ih]; grind
theorem qat_qsub (a b : P) (x : Rat) : qat (qsub a b) x = qat a x - qat b x := by
  unfold qsub
  rw [qat_qadd, qat_qneg]; grind
theorem qat_qscale (p : P) (r x : Rat) : qat (qscale p r) x = qat p x * r := by
  unfold qscale
  split
  · exact qat_map_mul p r x
  · rename_i h
    have : r = 0 := Classical.byContradiction h
    rw [this, qat_nil]; grind
theorem qat_zeros (k : Nat) (x : Rat) : qat (List.replicate k 0) x = 0 := by
  induction k with
  | zero => rfl
  | succ k ih => rw [List.replicate_succ, qat_cons, ih]; grind
theorem qat_qraise (p : P) (k : Nat) (x : Rat) : qat (qraise p k) x = x ^ k * qat p x := by
  unfold qraise
  split
  · rename_i h; rw [h, qat_nil]; grind
  · rw [qat_append, qat_zeros, List.length_replicate]; grind
theorem qat_set : ∀ (F : P) (k : Nat) (v x : Rat), k < F.length → qat (F.set k v) x = qat F x + (v - F.getD k 0) * x ^ k
  | [], k, v, x, h => by simp at h
  | c :: t, 0, v, x, h => by
    simp only [List.set_cons_zero, qat_cons, Rat.pow_zero]
    have : (c :: t).getD 0 0 = c := rfl
    rw [this]; grind
  | c :: t, k + 1, v, x, h => by
    simp only [List.set_cons_succ, qat_cons]
    have : (c :: t).getD (k + 1) 0 = t.getD k 0 := by simp
    rw [qat_set t k v x (by simpa using h), this, Rat.pow_succ]; grind
theorem qat_mulRow (i : Nat) (l x : Rat) : ∀ (b : P) (j : Nat) (F : P), i + j + b.length ≤ F.length → qat (mulRow i l j b F) x = qat F x + l * x ^ (i + j) * qat b x
  | [], j, F, h => by simp [mulRow, qat_nil, Rat.add_zero]
  | r :: rs, j, F, h => by
    simp only [List.length_cons] at h
    rw [mulRow, qat_mulRow i l x rs (j + 1) _ (by simp; omega), qat_set _ _ _ _ (by omega), qat_cons, ← Nat.add_assoc, Rat.pow_succ]; grind
theorem qat_mulRows (b : P) (x : Rat) : ∀ (a : P) (i : Nat) (F : P), i + a.length + b.length ≤ F.length + 1 → qat (mulRows b i a F) x = qat F x + x ^ i * qat a x * qat b x
  | [], i, F, h => by simp [mulRows, qat_nil, Rat.add_zero]
  | l :: ls, i, F, h => by
    simp only [List.length_cons] at h
    rw [mulRows, qat_mulRows b x ls (i + 1) _ (by rw [mulRow_length]; omega), qat_mulRow _ _ _ _ _ _ (by omega), qat_cons, Nat.add_zero, Rat.pow_succ]; grind
theorem qat_qmul (a b : P) (x : Rat) : qat (qmul a b) x = qat a x * qat b x := by
  unfold qmul
  split
  · rename_i h
    rcases h with h | h <;> rw [h] <;> simp [qat_nil]
  · rename_i h
    have h1 : a ≠ [] := fun e => h (.inl e)
    have h2 : b ≠ [] := fun e => h (.inr e)
    have h1 := List.length_pos_iff.mpr h1
    have h2 := List.length_pos_iff.mpr h2
    rw [qat_mulRows _ _ _ _ _ (by simp; omega), qat_zeros, Rat.pow_zero]; grind

/-! ### roots -/
noncomputable def synth (r : Rat) : P → P
  | [] => []
  | [_] => []
  | _ :: d :: t => qat (d :: t) r :: synth r (d :: t)
theorem synth_length (r : Rat) : ∀ p : P, (synth r p).length = p.length - 1
  | [] => rfl
  | [_] => rfl
  | _ :: d :: t => by simp only [synth, List.length_cons, synth_length r (d :: t)]; omega
theorem synth_eq (r x : Rat) : ∀ p : P, qat p x - qat p r = (x - r) * qat (synth r p) x
  | [] => by simp [qat_nil, synth]; grind
  | [c] => by simp only [synth, qat_cons, qat_nil]; grind
  | c :: d :: t => by
    have := synth_eq r x (d :: t)
    simp only [synth]
    rw [qat_cons c, qat_cons c, qat_cons (qat (d :: t) r)]; grind
theorem roots : ∀ (rs : List Rat) (p : P), p.length ≤ rs.length → rs.Nodup → (∀ r ∈ rs, qat p r = 0) → ∀ x, qat p x = 0
  | [], p, h, _, _, x => by
    have : p = [] := List.eq_nil_of_length_eq_zero (by simpa using h)
    rw [this]; rfl
  | r :: rs, p, h, hn, hr, x => by
    rw [List.nodup_cons] at hn
    have h0 := hr r (.head _)
    have := roots rs (synth r p) (by rw [synth_length]; simp at h; omega) hn.2 (fun s hs => by
      have e := synth_eq r s p
      rw [hr s (.tail _ hs), h0] at e
      have hne : s - r ≠ 0 := fun q => hn.1 (by have : s = r := by grind
                                                rw [← this]; exact hs)
      have : (s - r) * qat (synth r p) s = 0 := by grind
      exact (Rat.mul_eq_zero.mp this).resolve_left hne) x
    have e := synth_eq r x p
    rw [this, h0] at e
    grind
theorem zero_coefs : ∀ (p : P), (∀ x, qat p x = 0) → ∀ i, p.getD i 0 = 0
  | [], _, i => by simp
  | c :: t, h, i => by
    have hc : c = 0 := by have := h 0; rw [qat_cons] at this; grind
    have ht : ∀ x, qat t x = 0 := by
      refine roots ((List.range t.length).map fun i => ((i + 1 : Nat) : Rat)) t (by simp) ?_ ?_
      · refine List.Pairwise.map _ ?_ List.nodup_range
        intro a b hab e
        have : (a + 1 : Nat) = b + 1 := by exact_mod_cast e
        omega
      · intro r hr
        obtain ⟨i, _, rfl⟩ := List.mem_map.mp hr
        have := h ((i + 1 : Nat) : Rat)
        rw [qat_cons, hc] at this
        have hne : ((i + 1 : Nat) : Rat) ≠ 0 := by
          intro e
          have : (i + 1 : Nat) = 0 := by exact_mod_cast e
          omega
        have : qat t ((i + 1 : Nat) : Rat) * ((i + 1 : Nat) : Rat) = 0 := by grind
        exact (Rat.mul_eq_zero.mp this).resolve_right hne
    cases i with
    | zero => simpa using hc
    | succ i => simpa using zero_coefs t ht i
theorem eq_coefs {p q : P} (h : ∀ x, qat p x = qat q x) (i : Nat) : p.getD i 0 = q.getD i 0 := by
  have h0 : ∀ x, qat ((List.range (max p.length (qneg q).length)).map fun i => p.getD i 0 + (qneg q).getD i 0) x = 0 := fun x => by
    rw [qat_sum, qat_qneg, h]; grind
  have := zero_coefs _ h0 i
  have eg : ∀ l : P, l.getD i 0 = l[i]?.getD 0 := fun l => List.getD_eq_getElem?_getD
  have en : (qneg q).getD i 0 = -(q.getD i 0) := by
    rw [eg, eg]; unfold qneg; rw [List.getElem?_map]
    cases q[i]? <;> simp
  by_cases hi : i < max p.length (qneg q).length
  · rw [eg, List.getElem?_map, List.getElem?_range hi] at this
    simp only [Option.map_some, Option.getD_some, en] at this
    grind
  · have hl := qneg_length q
    rw [eg p, eg q, List.getElem?_eq_none (by omega), List.getElem?_eq_none (by omega)]
theorem last_getD {p : P} : p.getLastD 0 = p.getD (p.length - 1) 0 := by
  rw [List.getLastD_eq_getLast?, List.getLast?_eq_getElem?]; exact List.getD_eq_getElem?_getD.symm
theorem tr_eq {p q : P} (hp : Tr p) (hq : Tr q) (h : ∀ x, qat p x = qat q x) : p = q := by
  have hc := eq_coefs h
  have key : ∀ {p q : P}, Tr p → (∀ i, p.getD i 0 = q.getD i 0) → p.length ≤ q.length := by
    intro p q hp hc
    refine Nat.le_of_not_lt fun hlt => ?_
    have hne : p ≠ [] := fun e => by rw [e] at hlt; simp at hlt
    apply hp hne
    rw [last_getD, hc, List.getD_eq_getElem?_getD, List.getElem?_eq_none (by omega)]; rfl
  have hl := Nat.le_antisymm (key hp hc) (key hq fun i => (hc i).symm)
  apply List.ext_getElem?
  intro i
  by_cases hi : i < p.length
  · have := hc i
    rw [List.getD_eq_getElem?_getD, List.getD_eq_getElem?_getD, List.getElem?_eq_getElem hi, List.getElem?_eq_getElem (by omega)] at this
    rw [List.getElem?_eq_getElem hi, List.getElem?_eq_getElem (by omega)]
    simpa using this
  · rw [List.getElem?_eq_none (by omega), List.getElem?_eq_none (by omega)]
end Mine
end
section
set_option linter.unusedVariables false
namespace Mine

theorem powAdd (x : Rat) (m n : Nat) : x ^ (m + n) = x ^ m * x ^ n := by
  induction n with
  | zero => rw [Nat.add_zero, Rat.pow_zero]; grind
  | succ n ih => rw [← Nat.add_assoc, Rat.pow_succ, Rat.pow_succ, ih]; grind
theorem qat_pad {p : P} {N : Nat} (h : p.length ≤ N) (x : Rat) : qat ((List.range N).map fun i => p.getD i 0) x = qat p x := by
  have e : ((List.range N).map fun i => p.getD i 0) = p ++ List.replicate (N - p.length) 0 := by
    apply List.ext_getElem?
    intro i
    by_cases hi : i < N
    · by_cases hp : i < p.length
      · simp [hi, hp, List.getElem?_append_left]
      · have e0 : p.getD i 0 = 0 := by rw [List.getD_eq_getElem?_getD, List.getElem?_eq_none (by omega)]; rfl
        rw [List.getElem?_append_right (by omega), List.getElem?_replicate, if_pos (by omega), List.getElem?_map, List.getElem?_range hi, Option.map_some, e0]
    · rw [List.getElem?_eq_none (by simp; omega), List.getElem?_eq_none (by simp; omega)]
  rw [e, qat_append, qat_zeros]; grind
theorem qmul_length {a b : P} (ha : a ≠ []) (hb : b ≠ []) : (qmul a b).length = a.length + b.length - 1 := by
  unfold qmul
  rw [if_neg (by simp [ha, hb]), mulRows_length, List.length_replicate]
theorem qmul_length_le (a b : P) : (qmul a b).length ≤ a.length + b.length - 1 := by
  by_cases h : a = [] ∨ b = []
  · unfold qmul; rw [if_pos h]; simp
  · rw [qmul_length (fun e => h (.inl e)) (fun e => h (.inr e))]; exact Nat.le_refl _
theorem qmul_last {a b : P} (ha : a ≠ []) (hb : b ≠ []) : (qmul a b).getLastD 0 = a.getLastD 0 * b.getLastD 0 := by
  rw [last_getD, qmul_length ha hb]
  rcases List.eq_nil_or_concat a with rfl | ⟨a', α, rfl⟩
  · exact absurd rfl ha
  rcases List.eq_nil_or_concat b with rfl | ⟨b', β, rfl⟩
  · exact absurd rfl hb
  simp only [List.concat_eq_append] at *
  have eN : (a' ++ [α]).length + (b' ++ [β]).length - 1 - 1 = a'.length + b'.length := by rw [List.length_append, List.length_append, List.length_singleton, List.length_singleton]; omega
  rw [eN]
  let l1 := qadd (qmul a' (b' ++ [β])) (qraise (qscale b' α) a'.length)
  have hl : l1.length ≤ a'.length + b'.length := by
    refine Nat.le_trans (qadd_length _ _) (Nat.max_le.mpr ⟨?_, ?_⟩)
    · have := qmul_length_le a' (b' ++ [β])
      by_cases h0 : a' = []
      · rw [h0]; simp [qmul]
      · have := List.length_pos_iff.mpr h0
        simp at *; omega
    · have h1 := qraise_length (qscale b' α) a'.length
      have h2 := qscale_length b' α
      omega
  have key := eq_coefs (p := qmul (a' ++ [α]) (b' ++ [β])) (q := ((List.range (a'.length + b'.length)).map fun i => l1.getD i 0) ++ [α * β]) (fun x => by
    rw [qat_qmul, qat_append _ [α * β], qat_pad hl, qat_append a', qat_append b']
    show _ = qat (qadd _ _) x + _
    rw [qat_qadd, qat_qmul, qat_qraise, qat_qscale, qat_append b']
    simp only [qat_cons, qat_nil, List.length_map, List.length_range]
    have : x ^ (a'.length + b'.length) = x ^ a'.length * x ^ b'.length := powAdd _ _ _
    rw [this]; grind) (a'.length + b'.length)
  rw [key]
  have e1 : (((List.range (a'.length + b'.length)).map fun i => l1.getD i 0) ++ [α * β]).getD (a'.length + b'.length) 0 = α * β := by
    rw [List.getD_eq_getElem?_getD, List.getElem?_append_right (by simp)]; simp
  rw [e1]
  simp [List.getLastD_eq_getLast?]
theorem Tr.qmul {a b : P} (ha : Tr a) (hb : Tr b) : Tr (qmul a b) := by
  by_cases h : a = [] ∨ b = []
  · unfold Mine.qmul; rw [if_pos h]; exact Tr.nil
  · have h1 : a ≠ [] := fun e => h (.inl e)
    have h2 : b ≠ [] := fun e => h (.inr e)
    intro _
    rw [qmul_last h1 h2]
    exact fun e => (Rat.mul_eq_zero.mp e).elim (ha h1) (hb h2)

/-! ### division -/
theorem qat_dropLast {p : P} (h : p ≠ []) (x : Rat) : qat p x = qat p.dropLast x + x ^ (p.length - 1) * p.getLastD 0 := by
  rcases List.eq_nil_or_concat p with rfl | ⟨q, y, rfl⟩
  · exact absurd rfl h
  · simp only [List.concat_eq_append] at *
    rw [qat_append]
    simp [qat_cons, qat_nil, List.getLastD_eq_getLast?, Rat.zero_mul, Rat.zero_add]
theorem divLoop_eq {b : P} (hb : 1 ≤ b.length) (h0 : b.getLastD 0 ≠ 0) (x : Rat) : ∀ (f : Nat) (rest found : P), rest.length ≤ f → rest.length ≤ found.length + b.length - 1 → (∀ i, i + b.length ≤ rest.length → found.getD i 0 = 0) →
    qat (divLoop b f rest found).1 x * qat b x + qat (divLoop b f rest found).2 x = qat found x * qat b x + qat rest x
  | 0, rest, found, hf, _, _ => rfl
  | f + 1, rest, found, hf, hl2, hz => by
    by_cases hl : b.length ≤ rest.length
    · have hlen := nextRest_length hb hl
      have q1 : (nextRest b rest).length ≤ f := by omega
      have q2 : (nextRest b rest).length ≤ found.length + b.length - 1 := by omega
      have q3 : rest.length - b.length < found.length := by omega
      have e : divLoop b (f + 1) rest found = divLoop b f (nextRest b rest) (found.set (rest.length - b.length) (rest.getLastD 0 / b.getLastD 0)) := by
        simp only [divLoop, if_pos hl]; rfl
      rw [e]
      rw [divLoop_eq hb h0 x f _ _ q1 (by rw [List.length_set]; exact q2) (fun i hi => by
        have eg : ∀ l : P, l.getD i 0 = l[i]?.getD 0 := fun l => List.getD_eq_getElem?_getD
        rw [eg, List.getElem?_set_ne (by omega), ← eg]
        exact hz i (by omega))]
      rw [qat_set _ _ _ _ q3, hz _ (by omega)]
      unfold nextRest
      rw [qat_qsub, qat_qraise, qat_qscale]
      have hr0 : rest ≠ [] := fun e => by rw [e] at hl; simp only [List.length_nil] at hl; omega
      have hb0 : b ≠ [] := fun e => by rw [e] at hb; simp at hb
      have e1 := qat_dropLast hr0 x
      have e2 := qat_dropLast hb0 x
      have e3 : x ^ (rest.length - 1) = x ^ (rest.length - b.length) * x ^ (b.length - 1) := by
        rw [← powAdd]; congr 1; omega
      rw [e3] at e1
      generalize rest.getLastD 0 = rl at *
      generalize b.getLastD 0 = bl at *
      have e4 : rl / bl * bl = rl := by grind
      generalize rl / bl = q at *
      generalize x ^ (rest.length - b.length) = y at *
      generalize x ^ (b.length - 1) = z at *
      rw [e1, e2]
      grind
    · have e : divLoop b (f + 1) rest found = (found, rest) := by simp only [divLoop, if_neg hl]
      rw [e]
theorem qdivmod_eq {a b : P} (hb : 1 ≤ b.length) (h0 : b.getLastD 0 ≠ 0) (x : Rat) : qat a x = qat (qdivmod a b).1 x * qat b x + qat (qdivmod a b).2 x := by
  have := divLoop_eq hb h0 x a.length a (List.replicate (a.length + 1 - b.length) 0) (Nat.le_refl _) (by simp; omega) (fun i hi => by rw [List.getD_eq_getElem?_getD, List.getElem?_replicate]; split <;> rfl)
  rw [qat_zeros] at this
  unfold qdivmod
  simp only [qat_trim]
  grind

/-! ### divisors -/
noncomputable def Dv (g a : P) : Prop := ∃ s : P, ∀ x, qat a x = qat s x * qat g x
theorem Dv.refl (g : P) : Dv g g := ⟨[1], fun x => by simp only [qat_cons, qat_nil]; grind⟩
theorem Dv.nil (g : P) : Dv g [] := ⟨[], fun x => by simp only [qat_nil]; grind⟩
theorem Dv.comb {g a b c : P} (q : P) (ha : Dv g a) (hb : Dv g b) (h : ∀ x, qat c x = qat q x * qat a x + qat b x) : Dv g c := by
  obtain ⟨s, hs⟩ := ha
  obtain ⟨t, ht⟩ := hb
  exact ⟨qadd (qmul q s) t, fun x => by rw [h, hs, ht, qat_qadd, qat_qmul]; grind⟩
theorem Dv.scale {g a b : P} (r : Rat) (ha : Dv g a) (h : ∀ x, qat b x = qat a x * r) : Dv g b := by
  obtain ⟨s, hs⟩ := ha
  exact ⟨qscale s r, fun x => by rw [h, hs, qat_qscale]; grind⟩
theorem qmonic_val {p : P} (hp : Tr p) : ∃ r : Rat, r ≠ 0 ∧ ∀ x, qat (qmonic p) x = qat p x * r := by
  unfold qmonic
  split
  · rename_i h; exact ⟨1, by decide, fun x => by rw [h, qat_nil]; grind⟩
  · rename_i h
    exact ⟨(p.getLastD 0)⁻¹, fun e => hp h (by grind), fun x => qat_qscale _ _ _⟩
theorem divLoop_Tr {b : P} (hb : 1 ≤ b.length) : ∀ (f : Nat) (rest found : P), rest.length ≤ f → Tr rest → (divLoop b f rest found).2.length < b.length ∧ Tr (divLoop b f rest found).2
  | 0, rest, found, hf, ht => ⟨by show rest.length < b.length; omega, ht⟩
  | f + 1, rest, found, hf, ht => by
    by_cases hl : b.length ≤ rest.length
    · have hlen := nextRest_length hb hl
      have e : divLoop b (f + 1) rest found = divLoop b f (nextRest b rest) (found.set (rest.length - b.length) (rest.getLastD 0 / b.getLastD 0)) := by
        simp only [divLoop, if_pos hl]; rfl
      rw [e]
      exact divLoop_Tr hb f _ _ (by omega) (Tr.qsub _ _)
    · have e : divLoop b (f + 1) rest found = (found, rest) := by simp only [divLoop, if_neg hl]
      rw [e]
      exact ⟨by show rest.length < b.length; omega, ht⟩
theorem gcdLoop_dv : ∀ (f : Nat) (a b : P), b.length + 1 ≤ f → Tr a → Tr b → Dv (gcdLoop f a b) a ∧ Dv (gcdLoop f a b) b ∧ Tr (gcdLoop f a b)
  | 0, a, b, h, _, _ => by omega
  | f + 1, a, b, h, ta, tb => by
    unfold gcdLoop
    split
    · rename_i hb; rw [hb]; exact ⟨Dv.refl _, Dv.nil _, ta⟩
    · rename_i hb
      have hl := List.length_pos_iff.mpr hb
      obtain ⟨r1, r2⟩ := divLoop_Tr hl a.length a (List.replicate (a.length + 1 - b.length) 0) (Nat.le_refl _) ta
      have r1' : (qdivmod a b).2.length < b.length := r1
      have r2' : Tr (qdivmod a b).2 := r2
      have hml := qmonic_length (qdivmod a b).2
      obtain ⟨h1, h2, h3⟩ := gcdLoop_dv f b (qmonic (qdivmod a b).2) (by omega) tb r2'.qmonic
      obtain ⟨r, hr, hv⟩ := qmonic_val r2'
      refine ⟨Dv.comb (qdivmod a b).1 h1 (Dv.scale r⁻¹ h2 fun x => by rw [hv]; grind) (qdivmod_eq hl (tb hb)), h1, h3⟩

/-- no common divisor, in values -/
noncomputable def Cop (a b : P) : Prop := ∃ u v : P, ∀ x, qat u x * qat a x + qat v x * qat b x = 1
theorem unit_length {w g : P} (hg : Tr g) (h : ∀ x, qat w x * qat g x = 1) : g.length = 1 := by
  have e : qmul (trim 0 w) g = [1] := tr_eq ((Tr.trim w).qmul hg) (fun _ => by decide) fun x => by rw [qat_qmul, qat_trim, h]; simp only [qat_cons, qat_nil]; grind
  have h1 : trim 0 w ≠ [] := fun q => by rw [q] at e; simp [qmul] at e
  have h2 : g ≠ [] := fun q => by rw [q] at e; simp [qmul] at e
  have := qmul_length h1 h2
  rw [e] at this
  have p1 := List.length_pos_iff.mpr h1
  have p2 := List.length_pos_iff.mpr h2
  simp at this; omega
theorem gcd_one {a b : P} (ta : Tr a) (tb : Tr b) (h : Cop a b) : (qgcd a b).length = 1 := by
  obtain ⟨⟨s, hs⟩, ⟨t, ht⟩, tg⟩ := gcdLoop_dv (b.length + 1) a b (Nat.le_refl _) ta tb
  obtain ⟨u, v, huv⟩ := h
  obtain ⟨r, hr, hv⟩ := qmonic_val tg
  refine unit_length (w := qscale (qadd (qmul u s) (qmul v t)) r⁻¹) tg.qmonic fun x => ?_
  have := huv x
  rw [hs, ht] at this
  show _ * qat (qmonic _) x = 1
  rw [hv, qat_qscale, qat_qadd, qat_qmul, qat_qmul]
  have e : r⁻¹ * r = 1 := by grind
  grind

/-! ### lowest terms -/
noncomputable def canon (t b : P) : Fr2 := (qscale t (b.getLastD 0)⁻¹, qscale b (b.getLastD 0)⁻¹)
theorem scale_last {b B : P} {c : Rat} (hb : Tr b) (hB : Tr B) (hc : c ≠ 0) (h : ∀ x, qat b x = c * qat B x) : b = qscale B c := tr_eq hb (hB.qscale c) fun x => by rw [qat_qscale, h]; grind
theorem fmake_eq {t b T B : P} {c : Rat} (tt : Tr t) (tb : Tr b) (tT : Tr T) (tB : Tr B) (hc : c ≠ 0) (h1 : ∀ x, qat t x = c * qat T x) (h2 : ∀ x, qat b x = c * qat B x) (hcop : Cop t b) (ht : t ≠ []) (hb : b ≠ []) : fmake t b = canon T B := by
  have e2 := scale_last tb tB hc h2
  have hB : B ≠ [] := fun e => by rw [e] at e2; rw [e2] at hb; simp [qscale] at hb
  have el : b.getLastD 0 = B.getLastD 0 * c := by
    rw [e2]; unfold qscale; rw [if_pos hc, getLastD_map]
  unfold fmake
  rw [if_neg ht]
  simp only [gcd_one tt tb hcop, Nat.lt_irrefl, if_false]
  have hl := tB hB
  have hi : (B.getLastD 0 * c)⁻¹ * c = (B.getLastD 0)⁻¹ := by grind
  unfold canon
  rw [el]
  congr 1
  · exact tr_eq (tt.qscale _) (tT.qscale _) fun x => by rw [qat_qscale, qat_qscale, h1, ← hi]; grind
  · exact tr_eq (tb.qscale _) (tB.qscale _) fun x => by rw [qat_qscale, qat_qscale, h2, ← hi]; grind
end Mine
end
section
set_option linter.unusedVariables false
namespace Mine

theorem fromZ_length (z : Z) : (fromZ z).length = z.length := by simp [fromZ]
theorem fromZ_getD (z : Z) (i : Nat) : (fromZ z).getD i 0 = ((z.getD i 0 : Int) : Rat) := by
  have e1 : (fromZ z).getD i 0 = (fromZ z)[i]?.getD 0 := List.getD_eq_getElem?_getD
  have e2 : z.getD i 0 = z[i]?.getD 0 := List.getD_eq_getElem?_getD
  rw [e1, e2]; unfold fromZ; rw [List.getElem?_map]
  cases z[i]? <;> simp
theorem fromZ_inj {a b : Z} (h : fromZ a = fromZ b) : a = b := by
  unfold fromZ at h
  exact (List.map_inj_right (fun x y e => by exact_mod_cast e)).mp h
theorem fromZ_trim (z : Z) : fromZ (trim 0 z) = trim 0 (fromZ z) := by
  induction z with
  | nil => rfl
  | cons a r ih =>
    have e : fromZ (a :: r) = (a : Rat) :: fromZ r := rfl
    rw [e]
    simp only [trim]
    rw [← ih]
    have h1 : (fromZ (trim 0 r) = [] ∧ (a : Rat) = 0) ↔ (trim 0 r = [] ∧ a = 0) := by
      constructor
      · rintro ⟨x, y⟩
        exact ⟨by unfold fromZ at x; simpa using x, by exact_mod_cast y⟩
      · rintro ⟨x, y⟩
        rw [x, y]; exact ⟨rfl, rfl⟩
    by_cases h : trim 0 r = [] ∧ a = 0
    · rw [if_pos h, if_pos (h1.mpr h)]; rfl
    · rw [if_neg h, if_neg (fun q => h (h1.mp q))]; rfl
theorem fromZ_zadd (a b : Z) : fromZ (zadd a b) = qadd (fromZ a) (fromZ b) := by
  show fromZ (trim 0 _) = trim 0 _
  rw [fromZ_trim]
  congr 1
  rw [fromZ_length, fromZ_length]
  unfold fromZ
  rw [List.map_map]
  apply List.map_congr_left
  intro i _
  have h1 := fromZ_getD a i
  have h2 := fromZ_getD b i
  unfold fromZ at h1 h2
  rw [h1, h2]
  simp [Rat.intCast_add]
theorem fromZ_zneg (a : Z) : fromZ (zneg a) = qneg (fromZ a) := by
  unfold fromZ zneg qneg
  rw [List.map_map, List.map_map]
  apply List.map_congr_left
  intro i _
  simp [Rat.intCast_neg]
theorem fromZ_zsub (a b : Z) : fromZ (zsub a b) = qsub (fromZ a) (fromZ b) := by
  unfold zsub qsub
  rw [fromZ_zadd, fromZ_zneg]
theorem fromZ_zscale (a : Z) (k : Int) : fromZ (zscale a k) = qscale (fromZ a) (k : Rat) := by
  unfold zscale qscale
  by_cases h : k = 0
  · rw [if_neg (by simpa using h), if_neg (by rw [h]; simp)]; rfl
  · rw [if_pos h, if_pos (fun e => h (by exact_mod_cast e))]
    unfold fromZ
    rw [List.map_map, List.map_map]
    apply List.map_congr_left
    intro i _
    simp [Rat.intCast_mul]
theorem fromZ_set (F : Z) (k : Nat) (v : Int) : fromZ (F.set k v) = (fromZ F).set k (v : Rat) := by simp [fromZ, List.map_set]
theorem fromZ_mulRow (i : Nat) (l : Int) : ∀ (b : Z) (j : Nat) (F : Z), fromZ (zmulRow i l j b F) = mulRow i (l : Rat) j (fromZ b) (fromZ F)
  | [], j, F => rfl
  | r :: rs, j, F => by
    have e : fromZ (r :: rs) = (r : Rat) :: fromZ rs := rfl
    rw [e, zmulRow, mulRow, fromZ_mulRow i l rs, fromZ_set, fromZ_getD]
    simp [Rat.intCast_add, Rat.intCast_mul]
theorem mulRow_zero (i : Nat) : ∀ (b : P) (j : Nat) (F : P), mulRow i 0 j b F = F
  | [], j, F => rfl
  | r :: rs, j, F => by
    have e : F.set (i + j) (F.getD (i + j) 0 + 0 * r) = F := by
      apply List.ext_getElem?
      intro k
      rw [List.getElem?_set]
      split
      · rename_i h
        subst h
        split
        · rename_i h2
          rw [List.getD_eq_getElem?_getD, List.getElem?_eq_getElem h2]
          simp [Rat.zero_mul, Rat.add_zero]
        · rename_i h2
          rw [List.getElem?_eq_none (by omega)]
      · rfl
    rw [mulRow, e, mulRow_zero i rs]
theorem fromZ_mulRows (b : Z) : ∀ (a : Z) (i : Nat) (F : Z), fromZ (zmulRows b i a F) = mulRows (fromZ b) i (fromZ a) (fromZ F)
  | [], i, F => rfl
  | l :: ls, i, F => by
    have e : fromZ (l :: ls) = (l : Rat) :: fromZ ls := rfl
    rw [e, zmulRows, mulRows, fromZ_mulRows b ls]
    congr 1
    split
    · exact fromZ_mulRow i l b 0 F
    · rename_i h
      have : l = 0 := Classical.byContradiction h
      rw [this]
      exact (mulRow_zero i (fromZ b) 0 (fromZ F)).symm
theorem fromZ_nil_iff (a : Z) : fromZ a = [] ↔ a = [] := by unfold fromZ; simp
theorem fromZ_zmul (a b : Z) : fromZ (zmul a b) = qmul (fromZ a) (fromZ b) := by
  unfold zmul qmul
  by_cases h : a = [] ∨ b = []
  · rw [if_pos h, if_pos (h.imp (fromZ_nil_iff a).mpr (fromZ_nil_iff b).mpr)]; rfl
  · rw [if_neg h, if_neg (fun q => h (q.imp (fromZ_nil_iff a).mp (fromZ_nil_iff b).mp)), fromZ_mulRows, fromZ_length, fromZ_length]
    congr 1
    unfold fromZ; simp
theorem fromZ_zat (z : Z) (n : Int) : qat (fromZ z) (n : Rat) = ((zat z n : Int) : Rat) := by
  induction z with
  | nil => rfl
  | cons a r ih =>
    have e : fromZ (a :: r) = (a : Rat) :: fromZ r := rfl
    rw [e, qat_cons, ih]
    show _ = ((zat r n * n + a : Int) : Rat)
    simp [Rat.intCast_add, Rat.intCast_mul]

/-! ### sizes of whole coefficients -/
noncomputable def Mx (b : Nat) (p : Z) : Prop := ∀ q ∈ p, q.natAbs ≤ b
theorem Mx.mono {b c : Nat} {p : Z} (h : Mx b p) (hc : b ≤ c) : Mx c p := fun q hq => Nat.le_trans (h q hq) hc
theorem Mx.getD {b : Nat} {p : Z} (h : Mx b p) (i : Nat) : (p.getD i 0).natAbs ≤ b := by
  rw [List.getD_eq_getElem?_getD]
  cases e : p[i]? with
  | none => simp
  | some q => exact h q (List.mem_of_getElem? e)
theorem Mx.zadd {a b : Nat} {p q : Z} (hp : Mx a p) (hq : Mx b q) : Mx (a + b) (zadd p q) := fun x hx => by
  obtain ⟨i, _, rfl⟩ := List.mem_map.mp (trim_mem hx)
  have h1 := hp.getD i
  have h2 := hq.getD i
  omega
theorem Mx.zscale {a : Nat} {p : Z} (hp : Mx a p) (k : Int) : Mx (a * k.natAbs) (zscale p k) := fun x hx => by
  unfold Mine.zscale at hx
  split at hx
  · obtain ⟨y, hy, rfl⟩ := List.mem_map.mp hx
    rw [Int.natAbs_mul]
    exact Nat.mul_le_mul_right _ (hp y hy)
  · cases hx
theorem zmulRow_getD (i : Nat) (l : Int) {B : Nat} : ∀ (b : Z), Mx B b → ∀ (j : Nat) (F : Z) (k : Nat), ((zmulRow i l j b F).getD k 0).natAbs ≤ (F.getD k 0).natAbs + l.natAbs * B ∧ (k < i + j → (zmulRow i l j b F).getD k 0 = F.getD k 0)
  | [], _, j, F, k => ⟨by simp [zmulRow], fun _ => rfl⟩
  | r :: rs, hb, j, F, k => by
    have hr := hb r (.head _)
    obtain ⟨h1, h2⟩ := zmulRow_getD i l rs (fun q hq => hb q (.tail _ hq)) (j + 1) (F.set (i + j) (F.getD (i + j) 0 + l * r)) k
    have eg : ∀ F : Z, F.getD k 0 = F[k]?.getD 0 := fun F => List.getD_eq_getElem?_getD
    rw [zmulRow]
    by_cases hk : k = i + j
    · subst hk
      refine ⟨?_, fun q => absurd q (by omega)⟩
      rw [h2 (by omega), eg, List.getElem?_set]
      split
      · split
        · simp only [Option.getD_some]
          have : (l * r).natAbs ≤ l.natAbs * B := by rw [Int.natAbs_mul]; exact Nat.mul_le_mul_left _ hr
          omega
        · simp
      · rename_i h; exact absurd rfl h
    · have e : (F.set (i + j) (F.getD (i + j) 0 + l * r)).getD k 0 = F.getD k 0 := by
        rw [eg, List.getElem?_set_ne (by omega), ← eg]
      rw [e] at h1 h2
      exact ⟨h1, fun q => h2 (by omega)⟩
theorem zmulRows_getD {A B : Nat} (b : Z) (hb : Mx B b) : ∀ (a : Z), Mx A a → ∀ (i : Nat) (F : Z) (k : Nat), ((zmulRows b i a F).getD k 0).natAbs ≤ (F.getD k 0).natAbs + a.length * (A * B)
  | [], _, i, F, k => by simp [zmulRows]
  | l :: ls, ha, i, F, k => by
    have h1 := zmulRows_getD b hb ls (fun q hq => ha q (.tail _ hq)) (i + 1) (if l ≠ 0 then zmulRow i l 0 b F else F) k
    have h2 : ((if l ≠ 0 then zmulRow i l 0 b F else F).getD k 0).natAbs ≤ (F.getD k 0).natAbs + A * B := by
      split
      · have := (zmulRow_getD i l b hb 0 F k).1
        have h3 : l.natAbs * B ≤ A * B := Nat.mul_le_mul_right _ (ha l (.head _))
        omega
      · omega
    rw [zmulRows, List.length_cons, Nat.add_mul, Nat.one_mul]
    omega
theorem Mx.of_getD {b : Nat} {p : Z} (h : ∀ k, (p.getD k 0).natAbs ≤ b) : Mx b p := fun q hq => by
  obtain ⟨k, hk⟩ := List.mem_iff_getElem?.mp hq
  have := h k
  rw [List.getD_eq_getElem?_getD, hk] at this
  exact this
theorem Mx.zmul {A B : Nat} {a b : Z} (ha : Mx A a) (hb : Mx B b) : Mx (a.length * (A * B)) (zmul a b) := by
  unfold Mine.zmul
  split
  · intro q hq; cases hq
  · refine Mx.of_getD fun k => ?_
    have := zmulRows_getD b hb a ha 0 (List.replicate (a.length + b.length - 1) 0) k
    have e : ((List.replicate (a.length + b.length - 1) (0 : Int)).getD k 0) = 0 := by
      rw [List.getD_eq_getElem?_getD, List.getElem?_replicate]; split <;> rfl
    rw [e] at this
    simpa using this
theorem BdZ.of {b n : Nat} {p : Z} (h : Mx b p) (hn : b < 2 ^ n) : BdZ n p := fun q hq => Nat.lt_of_le_of_lt (h q hq) hn
theorem Bd.int {n : Nat} {q : Int} (h : q.natAbs < 2 ^ n) (h1 : 1 ≤ n) : Bd n (q : Rat) := ⟨h, Nat.one_lt_pow (by omega) (by decide)⟩
theorem BdP.of {b n : Nat} {p : Z} (h : Mx b p) (hn : b < 2 ^ n) (h1 : 1 ≤ n) : BdP n (fromZ p) := fun q hq => by
  obtain ⟨z, hz, rfl⟩ := List.mem_map.mp hq
  exact Bd.int (Nat.lt_of_le_of_lt (h z hz) hn) h1
theorem zadd_length (a b : Z) : (zadd a b).length ≤ max a.length b.length := by
  have := qadd_length (fromZ a) (fromZ b)
  rw [← fromZ_zadd, fromZ_length, fromZ_length, fromZ_length] at this; exact this
theorem zscale_length (p : Z) (k : Int) : (zscale p k).length ≤ p.length := by unfold zscale; split <;> simp
theorem zmul_length_le (a b : Z) : (zmul a b).length ≤ a.length + b.length - 1 := by
  have := qmul_length_le (fromZ a) (fromZ b)
  rw [← fromZ_zmul, fromZ_length, fromZ_length, fromZ_length] at this; exact this
theorem zmul_nil (a : Z) : zmul a [] = [] := by simp [zmul]
end Mine
end
section
set_option linter.unusedVariables false
namespace Mine

noncomputable def seqZ (α β : Nat → Int) (b0 b1 : Z) : Nat → Z
  | 0 => b0
  | 1 => b1
  | k + 2 => zadd (zscale (seqZ α β b0 b1 (k + 1)) (α k)) (zmul [β k, 1] (seqZ α β b0 b1 k))
theorem convS_seq (nums places b0 b1 : Z) : ∀ k, convS nums places b0 b1 k = seqZ (fun k => nums.getD (k + 1) 0) (fun k => 0 - places.getD k 0) b0 b1 k
  | 0 => rfl
  | 1 => rfl
  | k + 2 => by rw [convS, seqZ, convS_seq nums places b0 b1 (k + 1), convS_seq nums places b0 b1 k]
section
variable {α β : Nat → Int} {b0 b1 : Z}
theorem seq_val (k : Nat) (x : Rat) : qat (fromZ (seqZ α β b0 b1 (k + 2))) x = (α k : Rat) * qat (fromZ (seqZ α β b0 b1 (k + 1))) x + ((β k : Rat) + x) * qat (fromZ (seqZ α β b0 b1 k)) x := by
  rw [seqZ, fromZ_zadd, fromZ_zscale, fromZ_zmul, qat_qadd, qat_qscale, qat_qmul]
  have e : fromZ [β k, 1] = [(β k : Rat), 1] := rfl
  rw [e]
  simp only [qat_cons, qat_nil]; grind
theorem seq_zat (k : Nat) (n : Int) : zat (seqZ α β b0 b1 (k + 2)) n = α k * zat (seqZ α β b0 b1 (k + 1)) n + (β k + n) * zat (seqZ α β b0 b1 k) n := by
  have := seq_val (α := α) (β := β) (b0 := b0) (b1 := b1) k (n : Rat)
  rw [fromZ_zat, fromZ_zat, fromZ_zat] at this
  exact_mod_cast this
theorem seq_Mx {a b k : Nat} (h1 : Mx a (seqZ α β b0 b1 (k + 1))) (h0 : Mx b (seqZ α β b0 b1 k)) (hα : (α k).natAbs ≤ 6) (hβ : (β k).natAbs ≤ 11) : Mx (6 * a + 22 * b) (seqZ α β b0 b1 (k + 2)) := by
  have e1 := h1.zscale (α k)
  have e2 : Mx 11 [β k, 1] := fun q hq => by
    rcases List.mem_cons.mp hq with e | e
    · rw [e]; exact hβ
    · rw [List.mem_singleton.mp e]; decide
  have e3 := e2.zmul h0
  refine (e1.zadd e3).mono ?_
  have : a * (α k).natAbs ≤ a * 6 := Nat.mul_le_mul_left _ hα
  simp only [List.length_cons, List.length_nil]
  omega
theorem seq_bound (h0 : Mx 6 b0) (h1 : Mx 6 b1) (hα : ∀ k, (α k).natAbs ≤ 6) (hβ : ∀ k, (β k).natAbs ≤ 11) : ∀ k, k ≤ 5 → Mx 88296 (seqZ α β b0 b1 k) := by
  have s2 := seq_Mx (α := α) (β := β) (b0 := b0) (b1 := b1) (k := 0) h1 h0 (hα 0) (hβ 0)
  have s3 := seq_Mx (α := α) (β := β) (b0 := b0) (b1 := b1) (k := 1) s2 h1 (hα 1) (hβ 1)
  have s4 := seq_Mx (α := α) (β := β) (b0 := b0) (b1 := b1) (k := 2) s3 s2 (hα 2) (hβ 2)
  have s5 := seq_Mx (α := α) (β := β) (b0 := b0) (b1 := b1) (k := 3) s4 s3 (hα 3) (hβ 3)
  intro k hk
  match k, hk with
  | 0, _ => exact Mx.mono h0 (by decide)
  | 1, _ => exact Mx.mono h1 (by decide)
  | 2, _ => exact s2.mono (by decide)
  | 3, _ => exact s3.mono (by decide)
  | 4, _ => exact s4.mono (by decide)
  | 5, _ => exact s5.mono (by decide)
theorem seq_length (k : Nat) : (seqZ α β b0 b1 (k + 2)).length ≤ max (seqZ α β b0 b1 (k + 1)).length (if (seqZ α β b0 b1 k).length = 0 then 0 else (seqZ α β b0 b1 k).length + 1) := by
  rw [seqZ]
  refine Nat.le_trans (zadd_length _ _) ?_
  have h1 := zscale_length (seqZ α β b0 b1 (k + 1)) (α k)
  have h2 := zmul_length_le [β k, 1] (seqZ α β b0 b1 k)
  split
  · rename_i h
    have e : seqZ α β b0 b1 k = [] := List.eq_nil_of_length_eq_zero h
    rw [e, zmul_nil]
    simp only [List.length_nil]; omega
  · simp only [List.length_cons, List.length_nil] at h2
    omega
theorem seq_Tr (k : Nat) (h0 : Tr (fromZ b0)) (h1 : Tr (fromZ b1)) : Tr (fromZ (seqZ α β b0 b1 k)) := by
  match k with
  | 0 => exact h0
  | 1 => exact h1
  | k + 2 => rw [seqZ, fromZ_zadd]; exact Tr.qadd _ _
end

section
variable {m : Nat} {nums places : Z}
theorem Good.place (G : Good m nums places) : ∀ i, i ≤ m → places.getD 0 0 + i ≤ places.getD i 0 ∧ places.getD i 0 ≤ places.getD 0 0 + 2 * i
  | 0, _ => by simp
  | i + 1, h => by
    have h1 := G.place i (by omega)
    have h2 := G.xs i (by omega)
    omega
theorem Good.placeAbs (G : Good m nums places) (i : Nat) : (places.getD i 0).natAbs ≤ 10 := by
  by_cases h : i ≤ m
  · have h1 := G.place i h
    have := G.m4
    have := G.x0
    omega
  · rw [List.getD_eq_getElem?_getD, List.getElem?_eq_none (by have := G.lp; omega)]; decide
theorem Good.num (G : Good m nums places) (i : Nat) (h1 : 1 ≤ i) (h2 : i ≤ m) : 4 ≤ nums.getD i 0 ∧ nums.getD i 0 ≤ 6 := by
  have := G.as (i - 1) (by omega)
  have e : i - 1 + 1 = i := by omega
  rw [e] at this; exact this
theorem Good.numAbs (G : Good m nums places) (i : Nat) : (nums.getD i 0).natAbs ≤ 6 := by
  by_cases h : i ≤ m
  · by_cases h0 : i = 0
    · subst h0; have := G.a0; omega
    · have := G.num i (by omega) h; omega
  · rw [List.getD_eq_getElem?_getD, List.getElem?_eq_none (by have := G.ln; omega)]; decide

/-- the tails: tailZ (m + 1 - k) is the top from place k on -/
noncomputable def tailZ (m : Nat) (nums places : Z) : Nat → Z := seqZ (fun k => nums.getD (m - 1 - k) 0) (fun k => 0 - places.getD (m - 1 - k) 0) [1] [nums.getD m 0]
theorem step_pos {a d e wa wb : Int} (h1 : 0 ≤ wa) (h2 : 0 ≤ wb) (ha : 4 ≤ a) (hd : -e ≤ d) : 4 * wa - e * wb ≤ a * wa + d * wb := by
  have h3 : 4 * wa ≤ a * wa := Int.mul_le_mul_of_nonneg_right ha h1
  have h4 : -e * wb ≤ d * wb := Int.mul_le_mul_of_nonneg_right hd h2
  have h5 : -e * wb = -(e * wb) := Int.neg_mul _ _
  omega
theorem zat_one (c n : Int) : zat [c] n = c := by simp [zat]
theorem coef_le {m j k : Nat} (h : m - 1 - j ≤ k) {a b c : Int} (ha : 0 ≤ a) (h2 : b - (2 * ((m - 1 - j : Nat) : Int)) * a ≤ c) : b - (2 * (k : Int)) * a ≤ c := by
  have : (2 * ((m - 1 - j : Nat) : Int)) * a ≤ (2 * (k : Int)) * a := Int.mul_le_mul_of_nonneg_right (by omega) ha
  omega
theorem pos_seq {m : Nat} (h4 : m ≤ 4) {w : Nat → Int} (e0 : w 0 = 1) (e1 : 4 ≤ w 1) (st : ∀ j k : Nat, m - 1 - j ≤ k → j + 2 ≤ m → 0 ≤ w (j + 1) → 0 ≤ w j → 4 * w (j + 1) - (2 * (k : Int)) * w j ≤ w (j + 2)) : ∀ j, j ≤ m → 0 < w j := by
  have q2 : 2 ≤ m → 5 * w 1 ≤ 2 * w 2 := fun h => by
    have := st 0 3 (by omega) h (by show 0 ≤ w 1; omega) (by rw [e0]; decide)
    rw [e0] at this
    simp only [Nat.zero_add] at this
    omega
  have q3 : 3 ≤ m → 2 * w 2 ≤ w 3 := fun h => by
    have a := q2 (Nat.le_of_succ_le h)
    have : 4 * w 2 - (2 * ((2 : Nat) : Int)) * w 1 ≤ w 3 := st 1 2 (by omega) h (by show 0 ≤ w 2; omega) (by omega)
    omega
  have q4 : 4 ≤ m → 2 * w 3 ≤ w 4 := fun h => by
    have a := q2 (Nat.le_trans (by decide) h)
    have b := q3 (Nat.le_of_succ_le h)
    have : 4 * w 3 - (2 * ((1 : Nat) : Int)) * w 2 ≤ w 4 := st 2 1 (by omega) h (by show 0 ≤ w 3; omega) (by omega)
    omega
  have p2 : 2 ≤ m → 0 < w 2 := fun h => by have := q2 h; omega
  have p3 : 3 ≤ m → 0 < w 3 := fun h => by have := q3 h; have := p2 (Nat.le_of_succ_le h); omega
  have p4 : 4 ≤ m → 0 < w 4 := fun h => by have := q4 h; have := p3 (Nat.le_of_succ_le h); omega
  intro j hj
  match j, hj with
  | 0, _ => rw [e0]; decide
  | 1, _ => exact Int.lt_of_lt_of_le (by decide) e1
  | 2, h => exact p2 h
  | 3, h => exact p3 h
  | 4, h => exact p4 h
  | j + 5, h => omega
theorem tail_pos (G : Good m nums places) {X : Int} (hX : places.getD 0 0 ≤ X) : ∀ j, j ≤ m → 0 < zat (tailZ m nums places j) X := by
  have hm := G.num m (Nat.le_trans (by decide) G.m2) (Nat.le_refl _)
  refine pos_seq (w := fun j => zat (tailZ m nums places j) X) G.m4 (zat_one 1 X) (by rw [show zat (tailZ m nums places 1) X = nums.getD m 0 from zat_one _ X]; exact hm.1) fun j k hk hj h1 h2 => coef_le hk h2 ?_
  show 4 * zat (tailZ m nums places (j + 1)) X - _ * zat (tailZ m nums places j) X ≤ zat (tailZ m nums places (j + 2)) X
  have e : zat (tailZ m nums places (j + 2)) X = nums.getD (m - 1 - j) 0 * zat (tailZ m nums places (j + 1)) X + ((0 - places.getD (m - 1 - j) 0) + X) * zat (tailZ m nums places j) X := seq_zat j X
  rw [e]
  have hp := G.place (m - 1 - j) (by omega)
  exact step_pos h1 h2 (G.num (m - 1 - j) (by omega) (by omega)).1 (by omega)
end
end Mine
end
section
set_option linter.unusedVariables false
namespace Mine

theorem cop_lin {p : P} {r : Rat} (h : qat p r ≠ 0) : Cop [-r, 1] p := by
  refine ⟨qscale (synth r p) (-(qat p r)⁻¹), [(qat p r)⁻¹], fun x => ?_⟩
  have := synth_eq r x p
  rw [qat_qscale]
  simp only [qat_cons, qat_nil]
  grind
theorem cop_mul {a b c : P} (h1 : Cop a c) (h2 : Cop b c) : Cop (qmul a b) c := by
  obtain ⟨u, v, h⟩ := h1
  obtain ⟨u', v', h'⟩ := h2
  refine ⟨qmul u u', qadd (qmul v (qadd (qmul u' b) (qmul v' c))) (qmul (qmul u a) v'), fun x => ?_⟩
  simp only [qat_qadd, qat_qmul]
  have e1 := h x
  have e2 := h' x
  grind
theorem cop_add {a c t : P} (q : P) (h : Cop a c) (ht : ∀ x, qat t x = qat q x * qat c x + qat a x) : Cop t c := by
  obtain ⟨u, v, h⟩ := h
  refine ⟨u, qsub v (qmul u q), fun x => ?_⟩
  simp only [qat_qsub, qat_qmul, ht]
  have e1 := h x
  grind
theorem cop_symm {a b : P} (h : Cop a b) : Cop b a := by
  obtain ⟨u, v, h⟩ := h
  exact ⟨v, u, fun x => by have := h x; grind⟩
theorem cop_scale {a b t s : P} {c : Rat} (hc : c ≠ 0) (h : Cop a b) (ht : ∀ x, qat t x = c * qat a x) (hs : ∀ x, qat s x = c * qat b x) : Cop t s := by
  obtain ⟨u, v, h⟩ := h
  refine ⟨qscale u c⁻¹, qscale v c⁻¹, fun x => ?_⟩
  simp only [qat_qscale, ht, hs]
  have e1 := h x
  have e2 : c⁻¹ * c = 1 := by grind
  grind

section
variable {m : Nat} {nums places : Z}
/-- the top from place k on -/
noncomputable def Pv (m : Nat) (nums places : Z) (k : Nat) : P := fromZ (tailZ m nums places (m + 1 - k))
theorem Pv_val (nums places : Z) {k : Nat} (hk : k < m) (x : Rat) : qat (Pv m nums places k) x = ((nums.getD k 0 : Int) : Rat) * qat (Pv m nums places (k + 1)) x + (x - ((places.getD k 0 : Int) : Rat)) * qat (Pv m nums places (k + 2)) x := by
  have e1 : m + 1 - k = (m - 1 - k) + 2 := by omega
  have e2 : m + 1 - (k + 1) = (m - 1 - k) + 1 := by omega
  have e3 : m + 1 - (k + 2) = m - 1 - k := by omega
  have e4 : m - 1 - (m - 1 - k) = k := by omega
  have := seq_val (α := fun k => nums.getD (m - 1 - k) 0) (β := fun k => 0 - places.getD (m - 1 - k) 0) (b0 := [1]) (b1 := [nums.getD m 0]) (m - 1 - k) x
  simp only [e4] at this
  unfold Pv tailZ
  rw [e1, e2, e3, this]
  have e5 : ((0 - places.getD k 0 : Int) : Rat) = -((places.getD k 0 : Int) : Rat) := by simp [Rat.intCast_sub, Rat.intCast_neg]; try grind
  rw [e5]; grind
theorem Pv_last (nums places : Z) : Pv m nums places (m + 1) = [1] := by
  unfold Pv
  rw [Nat.sub_self]; rfl
theorem Pv_m (nums places : Z) : Pv m nums places m = [((nums.getD m 0 : Int) : Rat)] := by
  unfold Pv
  rw [Nat.add_sub_cancel_left]; rfl
theorem Pv_Tr (G : Good m nums places) (k : Nat) : Tr (Pv m nums places k) := by
  refine seq_Tr _ (fun _ => by decide) (fun _ => ?_)
  have := (G.num m (by have := G.m2; omega) (Nat.le_refl _)).1
  show ((nums.getD m 0 : Int) : Rat) ≠ 0
  intro e
  have : nums.getD m 0 = 0 := by exact_mod_cast e
  omega
theorem Pv_pos (G : Good m nums places) {X : Int} (hX : places.getD 0 0 ≤ X) {k : Nat} (h1 : 1 ≤ k) : qat (Pv m nums places k) (X : Rat) ≠ 0 := by
  unfold Pv
  rw [fromZ_zat]
  intro e
  have : zat (tailZ m nums places (m + 1 - k)) X = 0 := by exact_mod_cast e
  have := tail_pos G hX (m + 1 - k) (by omega)
  omega
theorem lin_val (r x : Rat) : qat [-r, 1] x = x - r := by simp only [qat_cons, qat_nil]; grind
theorem Pv_cop (G : Good m nums places) : ∀ j, j ≤ m → Cop (Pv m nums places (m - j)) (Pv m nums places (m - j + 1))
  | 0, _ => ⟨[], [1], fun x => by rw [Nat.sub_zero, Pv_last]; simp only [qat_cons, qat_nil]; grind⟩
  | j + 1, hj => by
    have h := Pv_cop G j (by omega)
    have e : m - j = m - (j + 1) + 1 := by omega
    rw [e] at h
    generalize hk : m - (j + 1) = k at *
    have hkm : k < m := by omega
    have hx := Pv_pos G (X := places.getD k 0) (by have := (G.place k (by omega)).1; omega) (k := k + 1) (by omega)
    exact cop_add [((nums.getD k 0 : Int) : Rat)] (cop_mul (cop_lin hx) (cop_symm h)) fun x => by
      rw [Pv_val nums places hkm, qat_qmul, lin_val]
      simp only [qat_cons, qat_nil]; grind
theorem Pv_copk (G : Good m nums places) {k : Nat} (hk : k ≤ m) : Cop (Pv m nums places k) (Pv m nums places (k + 1)) := by
  have := Pv_cop G (m - k) (by omega)
  have e : m - (m - k) = k := by omega
  rw [e] at this; exact this
theorem Pv_ne (G : Good m nums places) {k : Nat} (h1 : 1 ≤ k) : Pv m nums places k ≠ [] := fun e => by
  have := Pv_pos G (X := places.getD 0 0) (Int.le_refl _) h1
  rw [e] at this
  exact this rfl

noncomputable def lineP (places : Z) (k : Nat) : P := [((-(places.getD k 0) : Int) : Rat), 1]
theorem lineP_val (places : Z) (k : Nat) (x : Rat) : qat (lineP places k) x = x - ((places.getD k 0 : Int) : Rat) := by
  unfold lineP
  simp only [qat_cons, qat_nil]
  have : ((-(places.getD k 0) : Int) : Rat) = -((places.getD k 0 : Int) : Rat) := by simp [Rat.intCast_neg]
  rw [this]; grind
theorem lineP_Tr (places : Z) (k : Nat) : Tr (lineP places k) := fun _ => by show (1 : Rat) ≠ 0; decide
/-- the chain of terms -/
noncomputable def chF (m : Nat) (nums places : Z) (k : Nat) : Fr2 := canon (Pv m nums places k) (Pv m nums places (k + 1))
noncomputable def chG (m : Nat) (nums places : Z) (k : Nat) : Fr2 := canon (qmul (lineP places k) (Pv m nums places (k + 2))) (Pv m nums places (k + 1))

theorem canon_val1 (t b : P) (x : Rat) : qat (canon t b).1 x = (b.getLastD 0)⁻¹ * qat t x := by unfold canon; rw [qat_qscale]; grind
theorem canon_val2 (t b : P) (x : Rat) : qat (canon t b).2 x = (b.getLastD 0)⁻¹ * qat b x := by unfold canon; rw [qat_qscale]; grind
theorem canon_Tr1 {t b : P} (h : Tr t) : Tr (canon t b).1 := h.qscale _
theorem canon_Tr2 {t b : P} (h : Tr b) : Tr (canon t b).2 := h.qscale _
theorem ne_of_val {p q : P} {c x : Rat} (hc : c ≠ 0) (h : ∀ x, qat p x = c * qat q x) (hq : q ≠ []) (tq : Tr q) : p ≠ [] := fun e => by
  have hz : ∀ x, qat q x = 0 := fun x => by
    have := h x
    rw [e, qat_nil] at this
    exact (Rat.mul_eq_zero.mp this.symm).resolve_left hc
  have := zero_coefs q hz (q.length - 1)
  rw [← last_getD] at this
  exact tq hq this
theorem one_val (x : Rat) : qat [1] x = 1 := by simp only [qat_cons, qat_nil]; grind
theorem one_Tr : Tr [1] := fun _ => by show (1 : Rat) ≠ 0; decide

theorem chG_eq (G : Good m nums places) {k : Nat} (hk : k < m) (hne : Pv m nums places (k + 2) ≠ []) : fdiv (fpoly (lineP places k)) (chF m nums places (k + 1)) = chG m nums places k ∧
    Tr (qmul (lineP places k) (chF m nums places (k + 1)).2) ∧ Tr (qmul [1] (chF m nums places (k + 1)).1) ∧ qmul [1] (chF m nums places (k + 1)).1 ≠ [] ∧ Cop (qmul (lineP places k) (chF m nums places (k + 1)).2) (qmul [1] (chF m nums places (k + 1)).1) := by
  have t2 := Pv_Tr G (k + 2)
  have t1 := Pv_Tr G (k + 1)
  have hc : ((Pv m nums places (k + 2)).getLastD 0)⁻¹ ≠ 0 := fun e => t2 hne (by grind)
  have v1 : ∀ x, qat (qmul (lineP places k) (chF m nums places (k + 1)).2) x = ((Pv m nums places (k + 2)).getLastD 0)⁻¹ * qat (qmul (lineP places k) (Pv m nums places (k + 2))) x := fun x => by
    rw [qat_qmul, qat_qmul]; show _ * qat (canon _ _).2 x = _; rw [canon_val2]; grind
  have v2 : ∀ x, qat (qmul [1] (chF m nums places (k + 1)).1) x = ((Pv m nums places (k + 2)).getLastD 0)⁻¹ * qat (Pv m nums places (k + 1)) x := fun x => by
    rw [qat_qmul, one_val]; show _ * qat (canon _ _).1 x = _; rw [canon_val1]; grind
  have tt : Tr (qmul (lineP places k) (chF m nums places (k + 1)).2) := (lineP_Tr _ _).qmul (canon_Tr2 t2)
  have tb : Tr (qmul [1] (chF m nums places (k + 1)).1) := one_Tr.qmul (canon_Tr1 t1)
  have tq := (lineP_Tr places k).qmul t2
  have nq : qmul (lineP places k) (Pv m nums places (k + 2)) ≠ [] := fun e => by
    have := qmul_length (a := lineP places k) (by simp [lineP]) hne
    rw [e] at this
    have h2 := List.length_pos_iff.mpr hne
    simp [lineP] at this; omega
  have hx := Pv_pos G (X := places.getD k 0) (by have := (G.place k (by omega)).1; omega) (k := k + 1) (by omega)
  have cop : Cop (qmul (lineP places k) (Pv m nums places (k + 2))) (Pv m nums places (k + 1)) := by
    have h := Pv_copk G (k := k + 1) (by omega)
    have el : lineP places k = [-((places.getD k 0 : Int) : Rat), 1] := by unfold lineP; simp [Rat.intCast_neg]
    rw [el]
    exact cop_mul (cop_lin hx) (cop_symm h)
  have c2 := cop_scale hc cop v1 v2
  have n1 := ne_of_val (x := 0) hc v1 nq tq
  have n2 := ne_of_val (x := 0) hc v2 (Pv_ne G (by omega)) t1
  refine ⟨?_, tt, tb, n2, c2⟩
  show fmake (qmul (lineP places k) (chF m nums places (k + 1)).2) (qmul [1] (chF m nums places (k + 1)).1) = _
  exact fmake_eq tt tb tq t1 hc v1 v2 c2 n1 n2

theorem fnum_val (a x : Rat) : qat (fnumber a).1 x = a := by
  unfold fnumber
  by_cases h : a = 0
  · rw [if_pos h, h]; rfl
  · rw [if_neg h]; simp only [qat_cons, qat_nil]; grind
theorem chF_eq (G : Good m nums places) {k : Nat} (hk : k < m) (h0 : Pv m nums places k ≠ []) : fadd (fnumber ((nums.getD k 0 : Int) : Rat)) (chG m nums places k) = chF m nums places k ∧
    Tr (qmul [1] (chG m nums places k).2) ∧ qmul [1] (chG m nums places k).2 ≠ [] ∧ Cop (qadd (qmul (fnumber ((nums.getD k 0 : Int) : Rat)).1 (chG m nums places k).2) (qmul (chG m nums places k).1 [1])) (qmul [1] (chG m nums places k).2) := by
  have t0 := Pv_Tr G k
  have t1 := Pv_Tr G (k + 1)
  have hne : Pv m nums places (k + 1) ≠ [] := Pv_ne G (by omega)
  have hc : ((Pv m nums places (k + 1)).getLastD 0)⁻¹ ≠ 0 := fun e => t1 hne (by grind)
  have v1 : ∀ x, qat (qadd (qmul (fnumber ((nums.getD k 0 : Int) : Rat)).1 (chG m nums places k).2) (qmul (chG m nums places k).1 [1])) x = ((Pv m nums places (k + 1)).getLastD 0)⁻¹ * qat (Pv m nums places k) x := fun x => by
    rw [qat_qadd, qat_qmul, qat_qmul, one_val, fnum_val, Pv_val nums places hk]
    show _ * qat (canon _ _).2 x + qat (canon _ _).1 x * 1 = _
    rw [canon_val1, canon_val2, qat_qmul, lineP_val]; grind
  have v2 : ∀ x, qat (qmul [1] (chG m nums places k).2) x = ((Pv m nums places (k + 1)).getLastD 0)⁻¹ * qat (Pv m nums places (k + 1)) x := fun x => by
    rw [qat_qmul, one_val]; show _ * qat (canon _ _).2 x = _; rw [canon_val2]; grind
  have tb : Tr (qmul [1] (chG m nums places k).2) := one_Tr.qmul (canon_Tr2 t1)
  have c2 := cop_scale hc (Pv_copk G (k := k) (by omega)) v1 v2
  have n1 := ne_of_val (x := 0) hc v1 h0 t0
  have n2 := ne_of_val (x := 0) hc v2 hne t1
  refine ⟨?_, tb, n2, c2⟩
  show fmake _ (qmul [1] (chG m nums places k).2) = _
  exact fmake_eq (Tr.qadd _ _) tb t0 t1 hc v1 v2 c2 n1 n2
end
end Mine
end
section
open PySem PySem.W PySem.Calls PyProof.Rows
set_option linter.unusedVariables false
namespace Mine
section
variable {m : Nat} {nums places : Z}

theorem two_up {f g : Nat → Nat} (h0 : f 0 ≤ g 0) (h1 : f 1 ≤ g 1) (st : ∀ j, f (j + 2) ≤ max (f (j + 1)) (f j + 1)) (g1 : ∀ j, g (j + 1) ≤ g (j + 2)) (g2 : ∀ j, g j + 1 ≤ g (j + 2)) (j : Nat) : f j ≤ g j ∧ f (j + 1) ≤ g (j + 1) := by
  induction j with
  | zero => exact ⟨h0, h1⟩
  | succ j ih => exact ⟨ih.2, Nat.le_trans (st j) (Nat.max_le.mpr ⟨Nat.le_trans ih.2 (g1 j), Nat.le_trans (Nat.succ_le_succ ih.1) (g2 j)⟩)⟩
theorem half_g1 (j : Nat) : (j + 1) / 2 + 1 ≤ (j + 2) / 2 + 1 := by omega
theorem half_g2 (j : Nat) : j / 2 + 1 + 1 ≤ (j + 2) / 2 + 1 := by omega
theorem len_if (a b : Nat) : max a (if b = 0 then 0 else b + 1) ≤ max a (b + 1) := by
  split
  · exact Nat.max_le.mpr ⟨Nat.le_max_left _ _, Nat.zero_le _⟩
  · exact Nat.le_refl _
theorem tail_len (m : Nat) (nums places : Z) (j : Nat) : (tailZ m nums places j).length ≤ j / 2 + 1 :=
  (two_up (f := fun j => (tailZ m nums places j).length) (g := fun j => j / 2 + 1) (by show (tailZ m nums places 0).length ≤ 1; exact Nat.le_of_eq rfl) (by show (tailZ m nums places 1).length ≤ 1; exact Nat.le_of_eq rfl) (fun j => Nat.le_trans (seq_length j) (len_if _ _)) half_g1 half_g2 j).1
theorem Pv_len (G : Good m nums places) (k : Nat) : (Pv m nums places k).length ≤ (m + 1 - k) / 2 + 1 := by
  unfold Pv
  rw [fromZ_length]
  exact tail_len m nums places _
theorem half3c {m k : Nat} (hm : m ≤ 4) : (m + 1 - k) / 2 + 1 ≤ 3 := by omega
theorem half2 {m k : Nat} (hm : m ≤ 4) : (m + 1 - (k + 2)) / 2 + 1 ≤ 2 := by omega
theorem Pv_len3 (G : Good m nums places) (k : Nat) : (Pv m nums places k).length ≤ 3 := Nat.le_trans (Pv_len G k) (half3c G.m4)
theorem tail_Mx (G : Good m nums places) (j : Nat) (hj : j ≤ 5) : Mx 88296 (tailZ m nums places j) := by
  refine seq_bound (fun q hq => ?_) (fun q hq => ?_) (fun k => G.numAbs _) (fun k => ?_) j hj
  · rw [List.mem_singleton.mp hq]; decide
  · rw [List.mem_singleton.mp hq]; exact G.numAbs m
  · have := G.placeAbs (m - 1 - k)
    show (0 - places.getD (m - 1 - k) 0).natAbs ≤ 11
    omega
theorem Pv_Bd (G : Good m nums places) (k : Nat) : BdP 17 (Pv m nums places k) := BdP.of (tail_Mx G _ (by have := G.m4; omega)) (by decide) (by decide)
theorem lineP_fromZ (places : Z) (k : Nat) : lineP places k = fromZ [-(places.getD k 0), 1] := rfl
theorem lineP_Bd (G : Good m nums places) (k : Nat) : BdP 5 (lineP places k) := by
  rw [lineP_fromZ]
  have := G.placeAbs k
  refine BdP.of (b := 11) (fun q hq => ?_) (by decide) (by decide)
  rcases List.mem_cons.mp hq with e | e
  · rw [e]; omega
  · rw [List.mem_singleton.mp e]; decide
theorem lineQ_Bd (G : Good m nums places) (k j : Nat) : BdP 21 (qmul (lineP places k) (Pv m nums places j)) := by
  rw [lineP_fromZ]
  unfold Pv
  rw [← fromZ_zmul]
  have := G.placeAbs k
  refine BdP.of (Mx.zmul (A := 11) (fun q hq => ?_) (tail_Mx G _ (by have := G.m4; omega))) (by show 2 * (11 * 88296) < 2 ^ 21; decide) (by decide)
  rcases List.mem_cons.mp hq with e | e
  · rw [e]; omega
  · rw [List.mem_singleton.mp e]; decide
theorem canon_Bd1 {n k : Nat} {t b : P} (ht : BdP n t) (hb : BdP k b) (h1 : 1 ≤ k) (tb : Tr b) (hb0 : b ≠ []) : BdP (n + k) (canon t b).1 := ht.qscale ((Bd.last hb h1).inv (tb hb0))
theorem canon_Bd2 {k : Nat} {t b : P} (hb : BdP k b) (h1 : 1 ≤ k) (tb : Tr b) (hb0 : b ≠ []) : BdP (k + k) (canon t b).2 := hb.qscale ((Bd.last hb h1).inv (tb hb0))
theorem chF_Bd (G : Good m nums places) (k : Nat) : BdP 34 (chF m nums places k).1 ∧ BdP 34 (chF m nums places k).2 :=
  ⟨canon_Bd1 (Pv_Bd G k) (Pv_Bd G (k + 1)) (by decide) (Pv_Tr G _) (Pv_ne G (by omega)), canon_Bd2 (Pv_Bd G (k + 1)) (by decide) (Pv_Tr G _) (Pv_ne G (by omega))⟩
theorem chG_Bd (G : Good m nums places) (k : Nat) : BdP 38 (chG m nums places k).1 ∧ BdP 38 (chG m nums places k).2 :=
  ⟨canon_Bd1 (lineQ_Bd G k (k + 2)) (Pv_Bd G (k + 1)) (by decide) (Pv_Tr G _) (Pv_ne G (by omega)), (canon_Bd2 (Pv_Bd G (k + 1)) (by decide) (Pv_Tr G _) (Pv_ne G (by omega))).mono (by decide)⟩
theorem chF_len (G : Good m nums places) (k : Nat) : (chF m nums places k).1.length ≤ (m + 1 - k) / 2 + 1 ∧ (chF m nums places k).2.length ≤ (m - k) / 2 + 1 := by
  refine ⟨Nat.le_trans (qscale_length _ _) (Pv_len G k), Nat.le_trans (qscale_length _ _) ?_⟩
  have := Pv_len G (k + 1)
  have e : m + 1 - (k + 1) = m - k := by omega
  rw [e] at this; exact this
theorem chG_len (G : Good m nums places) {k : Nat} (hk : k < m) : (chG m nums places k).1.length ≤ 3 ∧ (chG m nums places k).2.length ≤ 3 := by
  have h4 := G.m4
  refine ⟨Nat.le_trans (qscale_length _ _) ?_, Nat.le_trans (qscale_length _ _) ?_⟩
  · have h1 := qmul_length_le (lineP places k) (Pv m nums places (k + 2))
    have h2 := Nat.le_trans (Pv_len G (k + 2)) (half2 h4)
    have h3 : (lineP places k).length = 2 := rfl
    omega
  · exact Pv_len3 G (k + 1)

/-! ### the lead -/
noncomputable def leadOf (m : Nat) (nums : Z) : Rat := if m = 3 then 1 else if m = 2 then ((nums.getD 0 0 + nums.getD 2 0 : Int) : Rat) else ((nums.getD 0 0 + nums.getD 2 0 + nums.getD 4 0 : Int) : Rat)
theorem leadOf_ne (G : Good m nums places) : leadOf m nums ≠ 0 := by
  have h2 := G.m2
  have h4 := G.m4
  have h0 := G.a0
  unfold leadOf
  split
  · decide
  · split
    · rename_i e
      have := G.num 2 (by omega) (by omega)
      intro q
      have : nums.getD 0 0 + nums.getD 2 0 = 0 := by exact_mod_cast q
      omega
    · have a2 := G.num 2 (by omega) (by omega)
      have a4 := G.num 4 (by omega) (by omega)
      intro q
      have : nums.getD 0 0 + nums.getD 2 0 + nums.getD 4 0 = 0 := by exact_mod_cast q
      omega
theorem Pv_zero_lead (G : Good m nums places) : (Pv m nums places 0).getD ((m + 1) / 2) 0 = leadOf m nums := by
  have h2 := G.m2
  have h4 := G.m4
  have hv : ∀ k, k < m → ∀ x, qat (Pv m nums places k) x = ((nums.getD k 0 : Int) : Rat) * qat (Pv m nums places (k + 1)) x + (x - ((places.getD k 0 : Int) : Rat)) * qat (Pv m nums places (k + 2)) x := fun k hk x => Pv_val nums places hk x
  have hl : ∀ x, qat (Pv m nums places (m + 1)) x = 1 := fun x => by rw [Pv_last]; exact one_val x
  have hm : ∀ x, qat (Pv m nums places m) x = ((nums.getD m 0 : Int) : Rat) := fun x => by rw [Pv_m]; simp only [qat_cons, qat_nil]; grind
  have hmm : m = 2 ∨ m = 3 ∨ m = 4 := by omega
  rcases hmm with rfl | rfl | rfl
  · have v1 := hv 1 (by omega)
    have v0 := hv 0 (by omega)
    have e : leadOf 2 nums = ((nums.getD 0 0 : Int) : Rat) + ((nums.getD 2 0 : Int) : Rat) := by unfold leadOf; simp [Rat.intCast_add]
    rw [e]
    generalize ((nums.getD 0 0 : Int) : Rat) = a0 at *
    generalize ((nums.getD 1 0 : Int) : Rat) = a1 at *
    generalize ((nums.getD 2 0 : Int) : Rat) = a2 at *
    generalize ((places.getD 0 0 : Int) : Rat) = x0 at *
    generalize ((places.getD 1 0 : Int) : Rat) = x1 at *
    have := eq_coefs (p := Pv 2 nums places 0) (q := [a0 * (a1 * a2 - x1) - x0 * a2, a0 + a2]) (fun x => by
      have q1 := v1 x
      have q0 := v0 x
      have ql := hl x
      have qm := hm x
      simp only [Nat.reduceAdd] at q1 q0 ql
      rw [q0, q1, qm, ql]
      simp only [qat_cons, qat_nil]; grind) 1
    rw [this]; rfl
  · have v2 := hv 2 (by omega)
    have v1 := hv 1 (by omega)
    have v0 := hv 0 (by omega)
    have e : leadOf 3 nums = 1 := by unfold leadOf; simp
    rw [e]
    generalize ((nums.getD 0 0 : Int) : Rat) = a0 at *
    generalize ((nums.getD 1 0 : Int) : Rat) = a1 at *
    generalize ((nums.getD 2 0 : Int) : Rat) = a2 at *
    generalize ((nums.getD 3 0 : Int) : Rat) = a3 at *
    generalize ((places.getD 0 0 : Int) : Rat) = x0 at *
    generalize ((places.getD 1 0 : Int) : Rat) = x1 at *
    generalize ((places.getD 2 0 : Int) : Rat) = x2 at *
    have := eq_coefs (p := Pv 3 nums places 0) (q := [a0 * (a1 * (a2 * a3 - x2) - x1 * a3) - x0 * (a2 * a3 - x2), a0 * (a1 + a3) + (a2 * a3 - x2) - x0, 1]) (fun x => by
      have q2 := v2 x
      have q1 := v1 x
      have q0 := v0 x
      have ql := hl x
      have qm := hm x
      simp only [Nat.reduceAdd] at q2 q1 q0 ql
      rw [q0, q1, q2, qm, ql]
      simp only [qat_cons, qat_nil]; grind) 2
    rw [this]; rfl
  · have v3 := hv 3 (by omega)
    have v2 := hv 2 (by omega)
    have v1 := hv 1 (by omega)
    have v0 := hv 0 (by omega)
    have e : leadOf 4 nums = ((nums.getD 0 0 : Int) : Rat) + ((nums.getD 2 0 : Int) : Rat) + ((nums.getD 4 0 : Int) : Rat) := by unfold leadOf; simp [Rat.intCast_add]
    rw [e]
    generalize ((nums.getD 0 0 : Int) : Rat) = a0 at *
    generalize ((nums.getD 1 0 : Int) : Rat) = a1 at *
    generalize ((nums.getD 2 0 : Int) : Rat) = a2 at *
    generalize ((nums.getD 3 0 : Int) : Rat) = a3 at *
    generalize ((nums.getD 4 0 : Int) : Rat) = a4 at *
    generalize ((places.getD 0 0 : Int) : Rat) = x0 at *
    generalize ((places.getD 1 0 : Int) : Rat) = x1 at *
    generalize ((places.getD 2 0 : Int) : Rat) = x2 at *
    generalize ((places.getD 3 0 : Int) : Rat) = x3 at *
    have := eq_coefs (p := Pv 4 nums places 0) (q := [a0 * (a1 * (a2 * (a3 * a4 - x3) - x2 * a4) - x1 * (a3 * a4 - x3)) - x0 * (a2 * (a3 * a4 - x3) - x2 * a4), a0 * (a1 * (a2 + a4) + (a3 * a4 - x3) - x1) + (a2 * (a3 * a4 - x3) - x2 * a4) - x0 * (a2 + a4), a0 + a2 + a4]) (fun x => by
      have q3 := v3 x
      have q2 := v2 x
      have q1 := v1 x
      have q0 := v0 x
      have ql := hl x
      have qm := hm x
      simp only [Nat.reduceAdd] at q3 q2 q1 q0 ql
      rw [q0, q1, q2, q3, qm, ql]
      simp only [qat_cons, qat_nil]; grind) 2
    rw [this]; rfl
theorem Pv_zero_len (G : Good m nums places) : (Pv m nums places 0).length = (m + 1) / 2 + 1 := by
  have h1 := Pv_len G 0
  refine Nat.le_antisymm h1 (Nat.le_of_not_lt fun h => ?_)
  have := Pv_zero_lead G
  rw [List.getD_eq_getElem?_getD, List.getElem?_eq_none (by omega)] at this
  exact leadOf_ne G this.symm
theorem Pv_ne0 (G : Good m nums places) (k : Nat) : Pv m nums places k ≠ [] := by
  by_cases h : 1 ≤ k
  · exact Pv_ne G h
  · have e : k = 0 := by omega
    rw [e]
    intro q
    have := Pv_zero_len G
    rw [q] at this
    simp at this

theorem chF_m (G : Good m nums places) : chF m nums places m = fnumber ((nums.getD m 0 : Int) : Rat) := by
  have hn := (G.num m (by have := G.m2; omega) (Nat.le_refl _)).1
  have h0 : ((nums.getD m 0 : Int) : Rat) ≠ 0 := fun e => by
    have : nums.getD m 0 = 0 := by exact_mod_cast e
    omega
  unfold chF canon fnumber
  rw [Pv_last, Pv_m, if_neg h0]
  have e1 : (([1] : P).getLastD 0)⁻¹ = 1 := by show (1 : Rat)⁻¹ = 1; grind
  rw [e1]
  unfold qscale
  simp [Rat.mul_one]
end
end Mine
end
section
open PySem PySem.W PySem.Calls PyProof.Rows
set_option linter.unusedVariables false
namespace Mine
section
variable {m : Nat} {nums places : Z}

theorem mx_if (a l : Nat) : max a (if l = 0 then 0 else l + 1) ≤ max a (l + 1) := by split <;> omega
theorem cast_line (places : Z) (k : Nat) (x : Rat) : (((0 - places.getD k 0 : Int)) : Rat) + x = x - ((places.getD k 0 : Int) : Rat) := by
  have : ((0 - places.getD k 0 : Int) : Rat) = -((places.getD k 0 : Int) : Rat) := by simp [Rat.intCast_neg]
  rw [this]; grind
theorem top_rec (nums places : Z) (k : Nat) (x : Rat) : qat (fromZ (convTop nums places (k + 2))) x = ((nums.getD (k + 1) 0 : Int) : Rat) * qat (fromZ (convTop nums places (k + 1))) x + (x - ((places.getD k 0 : Int) : Rat)) * qat (fromZ (convTop nums places k)) x := by
  unfold convTop
  rw [convS_seq, convS_seq, convS_seq, seq_val, cast_line]
theorem bot_rec (nums places : Z) (k : Nat) (x : Rat) : qat (fromZ (convBot nums places (k + 2))) x = ((nums.getD (k + 1) 0 : Int) : Rat) * qat (fromZ (convBot nums places (k + 1))) x + (x - ((places.getD k 0 : Int) : Rat)) * qat (fromZ (convBot nums places k)) x := by
  unfold convBot
  rw [convS_seq, convS_seq, convS_seq, seq_val, cast_line]
theorem top_0 (nums places : Z) (x : Rat) : qat (fromZ (convTop nums places 0)) x = 1 := one_val x
theorem top_1 (nums places : Z) (x : Rat) : qat (fromZ (convTop nums places 1)) x = ((nums.getD 0 0 : Int) : Rat) := by
  show qat (fromZ (if nums.getD 0 0 ≠ 0 then [nums.getD 0 0] else [])) x = _
  by_cases h : nums.getD 0 0 = 0
  · rw [if_neg (by simpa using h), h]; rfl
  · rw [if_pos h]
    show qat [((nums.getD 0 0 : Int) : Rat)] x = _
    simp only [qat_cons, qat_nil]; grind
theorem bot_0 (nums places : Z) (x : Rat) : qat (fromZ (convBot nums places 0)) x = 0 := rfl
theorem bot_1 (nums places : Z) (x : Rat) : qat (fromZ (convBot nums places 1)) x = 1 := one_val x
theorem top_Tr (nums places : Z) (k : Nat) : Tr (fromZ (convTop nums places k)) := by
  unfold convTop
  rw [convS_seq]
  refine seq_Tr k one_Tr ?_
  split
  · rename_i h
    intro _
    show ((nums.getD 0 0 : Int) : Rat) ≠ 0
    exact fun e => h (by exact_mod_cast e)
  · exact Tr.nil
theorem bot_Tr (nums places : Z) (k : Nat) : Tr (fromZ (convBot nums places k)) := by
  unfold convBot
  rw [convS_seq]
  exact seq_Tr k Tr.nil one_Tr
theorem top_Mx (G : Good m nums places) (k : Nat) (hk : k ≤ 5) : Mx 88296 (convTop nums places k) := by
  unfold convTop
  rw [convS_seq]
  refine seq_bound (fun q hq => ?_) (fun q hq => ?_) (fun k => G.numAbs _) (fun k => ?_) k hk
  · rw [List.mem_singleton.mp hq]; decide
  · split at hq
    · rw [List.mem_singleton.mp hq]; exact G.numAbs 0
    · cases hq
  · have := G.placeAbs k
    omega
theorem bot_Mx (G : Good m nums places) (k : Nat) (hk : k ≤ 5) : Mx 88296 (convBot nums places k) := by
  unfold convBot
  rw [convS_seq]
  refine seq_bound (fun q hq => ?_) (fun q hq => ?_) (fun k => G.numAbs _) (fun k => ?_) k hk
  · cases hq
  · rw [List.mem_singleton.mp hq]; decide
  · have := G.placeAbs k
    omega
theorem top_len (nums places : Z) (k : Nat) (hk : k ≤ 5) : (convTop nums places k).length ≤ k / 2 + 1 := by
  refine (two_up (f := fun j => (convTop nums places j).length) (g := fun j => j / 2 + 1) (by show (convTop nums places 0).length ≤ 1; exact Nat.le_of_eq rfl) ?_ (fun j => ?_) half_g1 half_g2 k).1
  · show (if nums.getD 0 0 ≠ 0 then [nums.getD 0 0] else []).length ≤ 1
    split
    · exact Nat.le_refl _
    · exact Nat.zero_le _
  · show (convTop nums places (j + 2)).length ≤ max (convTop nums places (j + 1)).length ((convTop nums places j).length + 1)
    unfold convTop
    rw [convS_seq, convS_seq, convS_seq]
    exact Nat.le_trans (seq_length j) (mx_if _ _)
theorem bot_len (nums places : Z) (k : Nat) (hk : k ≤ 5) : (convBot nums places k).length ≤ (k + 1) / 2 := by
  refine (two_up (f := fun j => (convBot nums places j).length) (g := fun j => (j + 1) / 2) (by show (convBot nums places 0).length ≤ 0; exact Nat.le_of_eq rfl) (by show (convBot nums places 1).length ≤ 1; exact Nat.le_of_eq rfl) (fun j => ?_) (fun j => Nat.div_le_div_right (Nat.le_succ _)) (fun j => ?_) k).1
  · show (convBot nums places (j + 2)).length ≤ max (convBot nums places (j + 1)).length ((convBot nums places j).length + 1)
    unfold convBot
    rw [convS_seq, convS_seq, convS_seq]
    exact Nat.le_trans (seq_length j) (len_if _ _)
  · exact Nat.le_of_eq (Nat.add_div_right (j + 1) (by decide)).symm

theorem half3 {k : Nat} (hk : k ≤ 5) : k / 2 + 1 ≤ 3 := by omega
theorem half3b {k : Nat} (hk : k ≤ 5) : (k + 1) / 2 ≤ 3 := by omega
theorem top3 (nums places : Z) (k : Nat) (hk : k ≤ 5) : (convTop nums places k).length ≤ 3 := Nat.le_trans (top_len nums places k hk) (half3 hk)
theorem bot3 (nums places : Z) (k : Nat) (hk : k ≤ 5) : (convBot nums places k).length ≤ 3 := Nat.le_trans (bot_len nums places k hk) (half3b hk)
theorem ends_val (G : Good m nums places) (x : Rat) : qat (fromZ (convTop nums places (m + 1))) x = qat (Pv m nums places 0) x ∧ qat (fromZ (convBot nums places (m + 1))) x = qat (Pv m nums places 1) x := by
  have h2 := G.m2
  have h4 := G.m4
  have hv : ∀ k, k < m → qat (Pv m nums places k) x = ((nums.getD k 0 : Int) : Rat) * qat (Pv m nums places (k + 1)) x + (x - ((places.getD k 0 : Int) : Rat)) * qat (Pv m nums places (k + 2)) x := fun k hk => Pv_val nums places hk x
  have hl : qat (Pv m nums places (m + 1)) x = 1 := by rw [Pv_last]; exact one_val x
  have hm : qat (Pv m nums places m) x = ((nums.getD m 0 : Int) : Rat) := by rw [Pv_m]; simp only [qat_cons, qat_nil]; grind
  have t0 := top_0 nums places x
  have t1 := top_1 nums places x
  have t2 := top_rec nums places 0 x
  have t3 := top_rec nums places 1 x
  have t4 := top_rec nums places 2 x
  have t5 := top_rec nums places 3 x
  have b0 := bot_0 nums places x
  have b1 := bot_1 nums places x
  have b2 := bot_rec nums places 0 x
  have b3 := bot_rec nums places 1 x
  have b4 := bot_rec nums places 2 x
  have b5 := bot_rec nums places 3 x
  simp only [Nat.zero_add, Nat.reduceAdd] at t2 t3 t4 t5 b2 b3 b4 b5
  have hmm : m = 2 ∨ m = 3 ∨ m = 4 := by omega
  rcases hmm with rfl | rfl | rfl
  · have v1 := hv 1 (by omega)
    have v0 := hv 0 (by omega)
    simp only [Nat.zero_add, Nat.reduceAdd] at *
    rw [t3, t2, t1, t0, b3, b2, b1, b0, v0, v1, hm, hl]
    constructor <;> grind
  · have v2 := hv 2 (by omega)
    have v1 := hv 1 (by omega)
    have v0 := hv 0 (by omega)
    simp only [Nat.zero_add, Nat.reduceAdd] at *
    rw [t4, t3, t2, t1, t0, b4, b3, b2, b1, b0, v0, v1, v2, hm, hl]
    constructor <;> grind
  · have v3 := hv 3 (by omega)
    have v2 := hv 2 (by omega)
    have v1 := hv 1 (by omega)
    have v0 := hv 0 (by omega)
    simp only [Nat.zero_add, Nat.reduceAdd] at *
    rw [t5, t4, t3, t2, t1, t0, b5, b4, b3, b2, b1, b0, v0, v1, v2, v3, hm, hl]
    constructor <;> grind
theorem top_eq (G : Good m nums places) : fromZ (convTop nums places (m + 1)) = Pv m nums places 0 := tr_eq (top_Tr _ _ _) (Pv_Tr G 0) fun x => (ends_val G x).1
theorem bot_eq (G : Good m nums places) : fromZ (convBot nums places (m + 1)) = Pv m nums places 1 := tr_eq (bot_Tr _ _ _) (Pv_Tr G 1) fun x => (ends_val G x).2

/-! ### what the calls give -/
variable {C : Cx} (H : Facts C) (G : Good m nums places)
include H G
theorem within_ok : FnSpec C 10 (Str.ofString "_law_within") [encZ nums, encZ places] (.val (encF (chF m nums places 0))) := by
  have h2 := G.m2
  have h4 := G.m4
  have hLim : Lim = 67108864 := rfl
  refine within_spec H (N := m) G.ln (by omega) (by have := G.lp; omega) (by have := G.lp; omega) (chF m nums places) (chG m nums places) (chF_m G) (fun k hk => ?_) (fun k hk => ?_)
  · obtain ⟨e, q1, q2, q3, q4⟩ := chG_eq G hk (Pv_ne0 G _)
    rw [← e]
    have b := chF_Bd G (k + 1)
    have l := chF_len G (k + 1)
    have l1 : (chF m nums places (k + 1)).1.length ≤ 3 := by omega
    have l2 : (chF m nums places (k + 1)).2.length ≤ 2 := by omega
    have m1 := qmul_length_le (lineP places k) (chF m nums places (k + 1)).2
    have m2 := qmul_length_le [1] (chF m nums places (k + 1)).1
    have ll : (lineP places k).length = 2 := rfl
    have l1' : ([1] : P).length = 1 := rfl
    refine fdiv_spec H (n := 5) (m := 34) (k := 300) (f := fpoly (lineP places k)) (lineP_Bd G k) (show BdP 5 [1] from fun q hq => by rw [List.mem_singleton.mp hq]; exact Bd.one (by decide)) b.1 b.2 (by decide) (by show (lineP places k).length ≤ 3; omega) (by show ([1] : P).length ≤ 3; decide) l1 (by omega) ?_ ?_ (by decide) (by show (qmul (lineP places k) _).length ≤ 3; omega) (by show (qmul [1] _).length ≤ 3; omega) q1 q2 q3 (fun _ => gcd_one q1 q2 q4)
    · show 1 + (lineP places k).length * _ * (5 + 34 + 1) ≤ 300
      rw [ll]; omega
    · show 1 + 1 * _ * (5 + 34 + 1) ≤ 300
      omega
  · obtain ⟨e, q1, q2, q3⟩ := chF_eq G hk (Pv_ne0 G _)
    rw [← e]
    have b := chG_Bd G k
    obtain ⟨l1, l2⟩ := chG_len G hk
    have hfl : (fnumber ((nums.getD k 0 : Int) : Rat)).1.length ≤ 1 := by unfold fnumber; split <;> simp
    have hfb : BdP 3 (fnumber ((nums.getD k 0 : Int) : Rat)).1 := by
      unfold fnumber
      split
      · intro q hq; cases hq
      · intro q hq
        rw [List.mem_singleton.mp hq]
        have := G.numAbs k
        exact Bd.int (by show _ < 8; omega) (by decide)
    have m1 := qmul_length_le (fnumber ((nums.getD k 0 : Int) : Rat)).1 (chG m nums places k).2
    have m2 := qmul_length_le (chG m nums places k).1 [1]
    have m3 := qmul_length_le [1] (chG m nums places k).2
    have l1' : ([1] : P).length = 1 := rfl
    have m4 := qadd_length (qmul (fnumber ((nums.getD k 0 : Int) : Rat)).1 (chG m nums places k).2) (qmul (chG m nums places k).1 [1])
    refine fadd_spec H (n := 3) (m := 38) (k := 300) (f := fnumber ((nums.getD k 0 : Int) : Rat)) hfb (show BdP 3 [1] from fun q hq => by rw [List.mem_singleton.mp hq]; exact Bd.one (by decide)) b.1 b.2 (by decide) (by omega) (by show ([1] : P).length ≤ 3; decide) l1 l2 ?_ ?_ (by decide) ?_ (by show (qmul [1] _).length ≤ 3; omega) q1 q2 (fun _ => gcd_one (Tr.qadd _ _) q1 q3)
    · show 3 + ((fnumber ((nums.getD k 0 : Int) : Rat)).1.length * (chG m nums places k).2.length + (chG m nums places k).1.length * 1) * (3 + 38 + 1) ≤ 300
      have h1 : (fnumber ((nums.getD k 0 : Int) : Rat)).1.length * (chG m nums places k).2.length ≤ 1 * 3 := Nat.mul_le_mul hfl l2
      omega
    · show 1 + 1 * _ * (3 + 38 + 1) ≤ 300
      omega
    · show (qadd _ (qmul _ [1])).length ≤ 3
      refine Nat.le_trans m4 (Nat.max_le.mpr ⟨by omega, by omega⟩)
theorem make_ok : FnSpec C 10 (Str.ofString "fmake") [encP (fromZ (convTop nums places (m + 1))), encP (fromZ (convBot nums places (m + 1)))] (.val (encF (chF m nums places 0))) := by
  have h4 := G.m4
  rw [top_eq G, bot_eq G]
  have l0 := Pv_len3 G 0
  have l1 := Pv_len3 G 1
  have cop := Pv_copk G (k := 0) (by omega)
  have e : fmake (Pv m nums places 0) (Pv m nums places 1) = chF m nums places 0 := fmake_eq (c := 1) (Pv_Tr G 0) (Pv_Tr G 1) (Pv_Tr G 0) (Pv_Tr G 1) (by decide) (fun x => by grind) (fun x => by grind) cop (Pv_ne0 G 0) (Pv_ne0 G 1)
  rw [← e]
  refine (fmake_spec H (k := 17) (Pv_Bd G 0) (Pv_Bd G 1) (by decide) ?_ (by omega) (by omega) (Pv_Tr G 0) (Pv_Tr G 1) (Pv_ne0 G 1) (fun _ => gcd_one (Pv_Tr G 0) (Pv_Tr G 1) cop)).le (show 8 ≤ 10 by decide)
  exact Nat.le_trans (Nat.mul_le_mul_left _ (pow_le2 (show _ ≤ 16 by omega))) (by decide)
end
end Mine
end
section
open PySem PySem.W PySem.Calls PyProof.Rows
set_option linter.unusedVariables false
namespace Mine
section
variable {m : Nat} {nums places : Z}

theorem lam (nums places : Z) (s : Nat) : ∀ d, ∃ u v : Rat, (qat (fromZ (convTop nums places (s + d + 1))) ((places.getD s 0 : Int) : Rat) = u * qat (fromZ (convTop nums places (s + 1))) ((places.getD s 0 : Int) : Rat) ∧ qat (fromZ (convBot nums places (s + d + 1))) ((places.getD s 0 : Int) : Rat) = u * qat (fromZ (convBot nums places (s + 1))) ((places.getD s 0 : Int) : Rat)) ∧
    (qat (fromZ (convTop nums places (s + d + 2))) ((places.getD s 0 : Int) : Rat) = v * qat (fromZ (convTop nums places (s + 1))) ((places.getD s 0 : Int) : Rat) ∧ qat (fromZ (convBot nums places (s + d + 2))) ((places.getD s 0 : Int) : Rat) = v * qat (fromZ (convBot nums places (s + 1))) ((places.getD s 0 : Int) : Rat))
  | 0 => by
    refine ⟨1, ((nums.getD (s + 1) 0 : Int) : Rat), ⟨by rw [Nat.add_zero]; grind, by rw [Nat.add_zero]; grind⟩, ?_, ?_⟩
    · rw [Nat.add_zero, top_rec]; grind
    · rw [Nat.add_zero, bot_rec]; grind
  | d + 1 => by
    obtain ⟨u, v, ⟨h1, h2⟩, h3, h4⟩ := lam nums places s d
    have e1 : s + (d + 1) + 1 = s + d + 2 := by omega
    have e2 : s + (d + 1) + 2 = (s + d + 1) + 2 := by omega
    have e3 : s + d + 2 = (s + d + 1) + 1 := by omega
    rw [e1, e2]
    refine ⟨v, ((nums.getD (s + d + 1 + 1) 0 : Int) : Rat) * v + (((places.getD s 0 : Int) : Rat) - ((places.getD (s + d + 1) 0 : Int) : Rat)) * u, ⟨h3, h4⟩, ?_, ?_⟩
    · rw [top_rec, ← e3, h3, h1]; grind
    · rw [bot_rec, ← e3, h4, h2]; grind

noncomputable def valV (m : Nat) (nums places : Z) (s : Nat) : Rat := qat (chF m nums places 0).1 (((laterOf m places).getD s 0 : Int) : Rat) / qat (chF m nums places 0).2 (((laterOf m places).getD s 0 : Int) : Rat)
theorem later_last (G : Good m nums places) : (laterOf m places).getD (m + 1) 0 = places.getD m 0 + 1 := by
  unfold laterOf
  have := getD_append_one (a := places) (x := places.getD m 0 + 1)
  rw [G.lp] at this; exact this
theorem later_ge (G : Good m nums places) {s : Nat} (hs : s ≤ m + 1) : places.getD 0 0 ≤ (laterOf m places).getD s 0 ∧ ((laterOf m places).getD s 0).natAbs ≤ 11 := by
  by_cases h : s ≤ m
  · rw [laterGet G.lp h]
    have h1 := G.place s h
    have h2 := G.placeAbs s
    omega
  · have e : s = m + 1 := by omega
    rw [e, later_last G]
    have h1 := G.place m (Nat.le_refl _)
    have h2 := G.placeAbs m
    omega
theorem lead_ne (G : Good m nums places) (k : Nat) : ((Pv m nums places k).getLastD 0)⁻¹ ≠ 0 := fun e => Pv_Tr G k (Pv_ne0 G k) (by grind)
theorem valV_eq (G : Good m nums places) {s : Nat} (hs : s ≤ m + 1) : valV m nums places s = qat (Pv m nums places 0) (((laterOf m places).getD s 0 : Int) : Rat) / qat (Pv m nums places 1) (((laterOf m places).getD s 0 : Int) : Rat) := by
  unfold valV chF
  rw [canon_val1, canon_val2]
  have h1 := lead_ne G 1
  have h2 := Pv_pos G (later_ge G hs).1 (k := 1) (by decide)
  generalize ((Pv m nums places (0 + 1)).getLastD 0)⁻¹ = c at *
  generalize qat (Pv m nums places 0) _ = p at *
  generalize qat (Pv m nums places 1) _ = q at *
  have : c ≠ 0 := h1
  grind
theorem rat_den (V : Rat) : V * ((V.den : Int) : Rat) = ((V.num : Int) : Rat) := by
  have h : V = ((V.num : Int) : Rat) / ((V.den : Int) : Rat) := by rw [← Rat.divInt_eq_div, Rat.num_divInt_den]
  have hd : ((V.den : Int) : Rat) ≠ 0 := fun e => by
    have h2 : (V.den : Int) = 0 := by exact_mod_cast e
    have := V.den_nz
    omega
  generalize ((V.den : Int) : Rat) = d at *
  generalize ((V.num : Int) : Rat) = n at *
  rw [h]; grind
theorem check_ok (G : Good m nums places) {k s : Nat} (hs : s ≤ k) (hk : k ≤ m) : zat (convTop nums places (k + 1)) (places.getD s 0) * (valV m nums places s).den = zat (convBot nums places (k + 1)) (places.getD s 0) * (valV m nums places s).num := by
  have hx := laterGet (m := m) (places := places) G.lp (s := s) (by omega)
  have hv := valV_eq G (s := s) (by omega)
  rw [hx] at hv
  have h2 := Pv_pos G (X := places.getD s 0) (by rw [← hx]; exact (later_ge G (by omega)).1) (k := 1) (by decide)
  obtain ⟨u, _, ⟨a1, a2⟩, _⟩ := lam nums places s (k - s)
  obtain ⟨w, _, ⟨c1, c2⟩, _⟩ := lam nums places s (m - s)
  rw [show s + (k - s) + 1 = k + 1 by omega] at a1 a2
  rw [show s + (m - s) + 1 = m + 1 by omega] at c1 c2
  obtain ⟨e1, e2⟩ := ends_val G ((places.getD s 0 : Int) : Rat)
  rw [e1] at c1
  rw [e2] at c2
  rw [fromZ_zat] at a1 a2
  have hd := rat_den (valV m nums places s)
  have key : ((zat (convTop nums places (k + 1)) (places.getD s 0) : Int) : Rat) = ((zat (convBot nums places (k + 1)) (places.getD s 0) : Int) : Rat) * valV m nums places s := by
    rw [hv]
    generalize qat (Pv m nums places 0) ((places.getD s 0 : Int) : Rat) = p at *
    generalize qat (Pv m nums places 1) ((places.getD s 0 : Int) : Rat) = q at *
    generalize qat (fromZ (convTop nums places (s + 1))) ((places.getD s 0 : Int) : Rat) = A at *
    generalize qat (fromZ (convBot nums places (s + 1))) ((places.getD s 0 : Int) : Rat) = B at *
    rw [a1, a2, c1, c2]
    rw [c2] at h2
    have hw : w ≠ 0 := fun e => h2 (by rw [e]; grind)
    have hB : B ≠ 0 := fun e => h2 (by rw [e]; grind)
    grind
  have fin : ((zat (convTop nums places (k + 1)) (places.getD s 0) * ((valV m nums places s).den : Int) : Int) : Rat) = ((zat (convBot nums places (k + 1)) (places.getD s 0) * (valV m nums places s).num : Int) : Rat) := by
    rw [Rat.intCast_mul, Rat.intCast_mul, key, Rat.mul_assoc, hd]
  exact_mod_cast fin

/-! ### neighbours crossed -/
noncomputable def detZ (places : Z) : Nat → Z
  | 0 => [-1]
  | k + 1 => zscale (zmul (detZ places k) [0 - places.getD k 0, 1]) (-1)
theorem det_Tr (places : Z) : ∀ k, Tr (fromZ (detZ places k))
  | 0 => fun _ => by show ((-1 : Int) : Rat) ≠ 0; decide
  | k + 1 => by
    rw [detZ, fromZ_zscale, fromZ_zmul]
    exact ((det_Tr places k).qmul (fun _ => by show ((1 : Int) : Rat) ≠ 0; decide)).qscale _
theorem det_val (nums places : Z) (x : Rat) : ∀ k, qat (fromZ (convTop nums places (k + 1))) x * qat (fromZ (convBot nums places k)) x - qat (fromZ (convTop nums places k)) x * qat (fromZ (convBot nums places (k + 1))) x = qat (fromZ (detZ places k)) x
  | 0 => by
    rw [top_0, bot_0, top_1, bot_1]
    show _ = qat [((-1 : Int) : Rat)] x
    simp only [qat_cons, qat_nil]
    have : ((-1 : Int) : Rat) = -1 := by decide
    rw [this]; grind
  | k + 1 => by
    have ih := det_val nums places x k
    rw [detZ, fromZ_zscale, fromZ_zmul, qat_qscale, qat_qmul, ← ih, top_rec, bot_rec]
    have e : fromZ [0 - places.getD k 0, 1] = [((0 - places.getD k 0 : Int) : Rat), 1] := rfl
    rw [e]
    have e2 : qat [((0 - places.getD k 0 : Int) : Rat), 1] x = x - ((places.getD k 0 : Int) : Rat) := by
      rw [← cast_line]; simp only [qat_cons, qat_nil]; grind
    have e3 : ((-1 : Int) : Rat) = -1 := by decide
    rw [e2, e3]; grind
theorem det_eq (nums places : Z) (k : Nat) : zsub (zmul (convTop nums places (k + 2)) (convBot nums places (k + 1))) (zmul (convTop nums places (k + 1)) (convBot nums places (k + 2))) = detZ places (k + 1) := by
  apply fromZ_inj
  refine tr_eq ?_ (det_Tr places _) fun x => ?_
  · rw [fromZ_zsub]; exact Tr.qsub _ _
  · rw [fromZ_zsub, qat_qsub, fromZ_zmul, fromZ_zmul, qat_qmul, qat_qmul]
    exact det_val nums places x (k + 1)
theorem det_size (G : Good m nums places) : ∀ k, k ≤ 4 → (detZ places k).length ≤ k + 1 ∧ Mx (55 ^ k) (detZ places k)
  | 0, _ => ⟨Nat.le_refl 1, fun q hq => by rw [List.mem_singleton.mp hq]; decide⟩
  | k + 1, h => by
    obtain ⟨h1, h2⟩ := det_size G k (by omega)
    have hl := zmul_length_le (detZ places k) [0 - places.getD k 0, 1]
    have hs := zscale_length (zmul (detZ places k) [0 - places.getD k 0, 1]) (-1)
    refine ⟨?_, ?_⟩
    · rw [detZ]; simp only [List.length_cons, List.length_nil] at hl; omega
    · have hp := G.placeAbs k
      have h3 : Mx 11 [0 - places.getD k 0, 1] := fun q hq => by
        rcases List.mem_cons.mp hq with e | e
        · rw [e]; omega
        · rw [List.mem_singleton.mp e]; decide
      rw [detZ]
      refine ((h2.zmul h3).zscale (-1)).mono ?_
      show (detZ places k).length * (55 ^ k * 11) * 1 ≤ 55 ^ (k + 1)
      have h5 : (detZ places k).length * (55 ^ k * 11) ≤ 5 * (55 ^ k * 11) := Nat.mul_le_mul_right _ (by omega)
      rw [Nat.pow_succ]
      omega
end
end Mine
end
section
open PySem PySem.W PySem.Calls PyProof.Rows
set_option linter.unusedVariables false
namespace Mine
section
variable {m : Nat} {nums places : Z}

theorem Good.lt (G : Good m nums places) {i : Nat} : ∀ d, i + d + 1 ≤ m → places.getD i 0 < places.getD (i + d + 1) 0
  | 0, h => by have := G.xs i (by omega); rw [Nat.add_zero]; omega
  | d + 1, h => by
    have h1 := G.lt (i := i) d (by omega)
    have h2 := G.xs (i + d + 1) (by omega)
    have e : i + (d + 1) + 1 = i + d + 1 + 1 := by omega
    rw [e]; omega
theorem later_lt (G : Good m nums places) {t s : Nat} (h : t < s) (hs : s ≤ m + 1) : (laterOf m places).getD t 0 < (laterOf m places).getD s 0 := by
  rw [laterGet G.lp (show t ≤ m by omega)]
  by_cases hm : s ≤ m
  · rw [laterGet G.lp hm]
    have := G.lt (i := t) (s - t - 1) (by omega)
    have e : t + (s - t - 1) + 1 = s := by omega
    rw [e] at this; exact this
  · have e : s = m + 1 := by omega
    rw [e, later_last G]
    by_cases ht : t = m
    · rw [ht]; omega
    · have := G.lt (i := t) (m - t - 1) (by omega)
      have e : t + (m - t - 1) + 1 = m := by omega
      rw [e] at this; omega

noncomputable def invT (m : Nat) (nums places : Z) (t s : Nat) : Rat := qat (Pv m nums places t) (((laterOf m places).getD s 0 : Int) : Rat) / qat (Pv m nums places (t + 1)) (((laterOf m places).getD s 0 : Int) : Rat)
theorem invT_step (G : Good m nums places) {t s : Nat} (ht : t < m) (hs : s ≤ m + 1) : invT m nums places t s = ((nums.getD t 0 : Int) : Rat) + ((((laterOf m places).getD s 0 - (laterOf m places).getD t 0 : Int)) : Rat) * (qat (Pv m nums places (t + 2)) (((laterOf m places).getD s 0 : Int) : Rat) / qat (Pv m nums places (t + 1)) (((laterOf m places).getD s 0 : Int) : Rat)) := by
  unfold invT
  have h1 := Pv_pos G (later_ge G hs).1 (k := t + 1) (by omega)
  rw [Pv_val nums places ht, laterGet G.lp (show t ≤ m by omega), Rat.intCast_sub]
  generalize qat (Pv m nums places (t + 1)) _ = p at *
  generalize qat (Pv m nums places (t + 2)) _ = q at *
  generalize (((laterOf m places).getD s 0 : Int) : Rat) = x at *
  generalize ((places.getD t 0 : Int) : Rat) = y at *
  generalize ((nums.getD t 0 : Int) : Rat) = a at *
  grind
theorem invT_self (G : Good m nums places) {t : Nat} (ht : t < m) : invT m nums places t t = ((nums.getD t 0 : Int) : Rat) := by
  rw [invT_step G ht (by omega), Int.sub_self]
  have : ((0 : Int) : Rat) = 0 := rfl
  rw [this]; grind
theorem invT_m (G : Good m nums places) (s : Nat) : invT m nums places m s = ((nums.getD m 0 : Int) : Rat) := by
  unfold invT
  rw [Pv_m, Pv_last, one_val]
  simp only [qat_cons, qat_nil]; grind
theorem invT_diff (G : Good m nums places) {t s : Nat} (ht : t < m) (hts : t < s) (hs : s < m + 2) : invT m nums places t s ≠ invT m nums places t t ∧ invT m nums places (t + 1) s = ((((laterOf m places).getD s 0 - (laterOf m places).getD t 0 : Int)) : Rat) / (invT m nums places t s - invT m nums places t t) := by
  rw [invT_self G ht, invT_step G ht (by omega)]
  have h1 := Pv_pos G (later_ge G (show s ≤ m + 1 by omega)).1 (k := t + 1) (by omega)
  have h2 := Pv_pos G (later_ge G (show s ≤ m + 1 by omega)).1 (k := t + 2) (by omega)
  have h3 : ((((laterOf m places).getD s 0 - (laterOf m places).getD t 0 : Int)) : Rat) ≠ 0 := fun e => by
    have : (laterOf m places).getD s 0 - (laterOf m places).getD t 0 = 0 := by exact_mod_cast e
    have := later_lt G hts (by omega)
    omega
  unfold invT
  generalize qat (Pv m nums places (t + 1)) _ = p at *
  have e : t + 1 + 1 = t + 2 := rfl
  rw [e]
  generalize qat (Pv m nums places (t + 2)) _ = q at *
  generalize ((((laterOf m places).getD s 0 - (laterOf m places).getD t 0 : Int)) : Rat) = d at *
  generalize ((nums.getD t 0 : Int) : Rat) = a at *
  have hne : d * (q / p) ≠ 0 := fun e => by
    rcases Rat.mul_eq_zero.mp e with h | h
    · exact h3 h
    · have : q = q / p * p := by grind
      rw [h] at this
      exact h2 (by rw [this]; grind)
  constructor
  · intro e
    exact hne (by grind)
  · have e1 : a + d * (q / p) - a = d * (q / p) := by grind
    rw [e1]; grind

theorem pv_int (m : Nat) (nums places : Z) (k : Nat) (X : Int) : qat (Pv m nums places k) (X : Rat) = ((zat (tailZ m nums places (m + 1 - k)) X : Int) : Rat) := by unfold Pv; exact fromZ_zat _ _
theorem natAbs_lt_of {a b n : Nat} (h : a ≤ b) (hn : b < 2 ^ n) : a < 2 ^ n := Nat.lt_of_le_of_lt h hn

variable {C : Cx} (H : Facts C) (G : Good m nums places)
include H G
theorem steps_ok : FnSpec C 10 (Str.ofString "_law_steps") [encZ nums, encZ places] (.val (.tuple [.list (encZs (fun k => convTop nums places (k + 1)) (m + 1)), .list (encZs (fun k => convBot nums places (k + 1)) (m + 1))])) := by
  have h4 := G.m4
  have ln := G.ln
  have lp := G.lp
  have l3 : ∀ k p : Z, k.length ≤ 2 → p.length ≤ 100 → (zmul k p).length ≤ 500 := fun k p h1 h2 => Nat.le_trans (zmul_length_le k p) (by omega)
  have := steps_spec H (nums := nums) (places := places) (n := 17) (by omega) (by omega) (by omega) (by omega) (by decide) (by decide) (fun q hq => by
      obtain ⟨i, hi⟩ := List.mem_iff_getElem?.mp hq
      have := G.numAbs i
      rw [List.getD_eq_getElem?_getD, hi] at this
      exact natAbs_lt_of this (by decide)) (fun q hq => by
      obtain ⟨i, hi⟩ := List.mem_iff_getElem?.mp hq
      have := G.placeAbs i
      rw [List.getD_eq_getElem?_getD, hi] at this
      exact natAbs_lt_of this (by decide))
    (fun k hk => ⟨BdZ.of (top_Mx G k (by omega)) (by decide), Nat.le_trans (top3 nums places k (by omega)) (by decide)⟩) (fun k hk => ⟨BdZ.of (bot_Mx G k (by omega)) (by decide), Nat.le_trans (bot3 nums places k (by omega)) (by decide)⟩)
    (fun k hk => ⟨Nat.le_trans (zscale_length _ _) (Nat.le_trans (top3 nums places (k + 1) (by omega)) (by decide)), l3 _ _ (by simp) (Nat.le_trans (top3 nums places k (by omega)) (by decide))⟩)
    (fun k hk => ⟨Nat.le_trans (zscale_length _ _) (Nat.le_trans (bot3 nums places (k + 1) (by omega)) (by decide)), l3 _ _ (by simp) (Nat.le_trans (bot3 nums places k (by omega)) (by decide))⟩)
  rw [ln] at this
  exact this.le (show 3 ≤ 10 by decide)
theorem zat_ok {p : Z} (hp : Mx 88296 p) (hl : p.length ≤ 3) {X : Int} (hX : X.natAbs ≤ 11) : FnSpec C 10 (Str.ofString "zat") [encZ p, .int X] (.val (.int (zat p X))) ∧ (zat p X).natAbs < 2 ^ 67 := by
  have := zat_spec H (n := 17) (m := 4) (p := p) (r := X) (BdZ.of hp (by decide)) (natAbs_lt_of hX (by decide)) (by decide) (by have : Lim = 67108864 := rfl; omega) (by omega)
  exact ⟨this.1.le (show 1 ≤ 10 by decide), Nat.lt_of_lt_of_le this.2 (pow_le2 (by omega))⟩
theorem pv_Bd {k s : Nat} (hs : s ≤ m + 1) : Bd 67 (qat (Pv m nums places k) (((laterOf m places).getD s 0 : Int) : Rat)) := by
  rw [pv_int]
  have h4 := G.m4
  exact Bd.int (zat_ok H G (tail_Mx G _ (by omega)) (Nat.le_trans (tail_len m nums places _) (by omega)) (later_ge G hs).2).2 (by decide)
theorem valV_Bd {s : Nat} (hs : s ≤ m + 1) : Bd 134 (valV m nums places s) := by
  rw [valV_eq G hs]
  exact (pv_Bd H G hs).div (pv_Bd H G hs) (Pv_pos G (later_ge G hs).1 (by decide))
theorem fat_ok {s : Nat} (hs : s ≤ m + 1) : FnSpec C 10 (Str.ofString "fat") [encF (chF m nums places 0), encQ (((laterOf m places).getD s 0 : Int) : Rat)] (.val (encQ (valV m nums places s))) := by
  have h4 := G.m4
  have b := chF_Bd G 0
  have l := chF_len G 0
  refine (fat_spec H (n := 34) (m := 4) b.1 b.2 (Bd.int (natAbs_lt_of (later_ge G hs).2 (by decide)) (by decide)) (by decide) (by decide) (by omega) (by omega) ?_).le (show 5 ≤ 10 by decide)
  unfold chF
  rw [canon_val2]
  exact fun e => (Rat.mul_eq_zero.mp e).elim (lead_ne G _) (Pv_pos G (later_ge G hs).1 (by decide))
theorem back_ok : FnSpec C 10 (Str.ofString "_law_back") [encP ((List.range (m + 2)).map (valV m nums places)), encZ (laterOf m places), .int m] (.val (encP (fromZ (nums.take m ++ [nums.getD m 0, nums.getD m 0])))) := by
  have h4 := G.m4
  have ln := G.ln
  have key := back_spec H (values := (List.range (m + 2)).map (valV m nums places)) (places := laterOf m places) (N := m + 2) (m := m) (n := 134) (by simp) (by omega) (laterLen G.lp) (by omega) (invT m nums places)
    (fun s hs => by
      have e : ((List.range (m + 2)).map (valV m nums places)).getD s 0 = valV m nums places s := by simp [List.getD_eq_getElem?_getD, hs]
      rw [e, valV_eq G (by omega)]; rfl)
    (fun t s ht hts hs => invT_diff G ht hts hs)
    (fun t s ht hts hs => (pv_Bd H G (by omega)).div (pv_Bd H G (by omega)) (Pv_pos G (later_ge G (by omega)).1 (by omega)))
    (fun t s => by
      have la : ∀ i, ((laterOf m places).getD i 0).natAbs ≤ 11 := fun i => by
        by_cases hi : i ≤ m + 1
        · exact (later_ge G hi).2
        · rw [List.getD_eq_getElem?_getD, List.getElem?_eq_none (by rw [laterLen G.lp]; omega)]; decide
      have h1 := la s
      have h2 := la t
      exact Bd.int (natAbs_lt_of (b := 22) (by omega) (by decide)) (by decide)) (by decide)
  have e : (List.range m).map (fun t => invT m nums places t t) ++ (backRow (invT m nums places) (m + 2) m).drop m = fromZ (nums.take m ++ [nums.getD m 0, nums.getD m 0]) := by
    have e1 : (List.range m).map (fun t => invT m nums places t t) = fromZ (nums.take m) := by
      apply List.ext_getElem?
      intro i
      by_cases hi : i < m
      · unfold fromZ
        rw [List.getElem?_map, List.getElem?_range hi, Option.map_some, invT_self G hi, List.getElem?_map, List.getElem?_take, if_pos hi, gZ (show i < nums.length by omega)]; rfl
      · rw [List.getElem?_eq_none (by simp; omega), List.getElem?_eq_none (by rw [fromZ_length]; simp; omega)]
    have e2 : (backRow (invT m nums places) (m + 2) m).drop m = [((nums.getD m 0 : Int) : Rat), ((nums.getD m 0 : Int) : Rat)] := by
      unfold backRow
      rw [List.range_succ, List.range_succ, List.map_append, List.map_append, List.append_assoc, List.drop_append_of_le_length (by simp), List.drop_of_length_le (by simp)]
      simp only [List.map_cons, List.map_nil, List.nil_append, List.singleton_append, Nat.min_self]
      rw [Nat.min_eq_left (by omega), invT_m G, invT_m G]
    rw [e1, e2]
    unfold fromZ
    rw [List.map_append]; rfl
  rw [e] at key
  exact key.le (show 4 ≤ 10 by decide)
end
end Mine
end
section
set_option linter.unusedVariables false
namespace Mine

noncomputable def sm : Nat → (Nat → Rat) → (Nat → Rat) → Rat
  | 0, _, _ => 0
  | n + 1, g, v => sm n g v + g n * v n
theorem sm_congr {n : Nat} {g h v : Nat → Rat} (e : ∀ j, j < n → g j = h j) : sm n g v = sm n h v := by
  induction n with
  | zero => rfl
  | succ n ih => rw [sm, sm, ih fun j hj => e j (by omega), e n (by omega)]
theorem sm_lin (n : Nat) (g h v : Nat → Rat) (q : Rat) : sm n (fun j => g j - q * h j) v = sm n g v - q * sm n h v := by
  induction n with
  | zero => simp only [sm]; grind
  | succ n ih => simp only [sm]; rw [ih]; grind
theorem sm_mul (n : Nat) (g v : Nat → Rat) (q : Rat) : sm n (fun j => q * g j) v = q * sm n g v := by
  induction n with
  | zero => simp only [sm]; grind
  | succ n ih => simp only [sm]; rw [ih]; grind
theorem sm_upd {n s : Nat} {g v w : Nat → Rat} (hs : s < n) (h : ∀ j, j ≠ s → w j = v j) : sm n g w = sm n g v + g s * (w s - v s) := by
  have off : ∀ k, k ≤ s → sm k g w = sm k g v := by
    intro k
    induction k with
    | zero => intro _; rfl
    | succ k ih => intro hk; rw [sm, sm, ih (by omega), h k (by omega)]
  have : ∀ d, sm (s + 1 + d) g w = sm (s + 1 + d) g v + g s * (w s - v s) := by
    intro d
    induction d with
    | zero => rw [Nat.add_zero, sm, sm, off s (Nat.le_refl _)]; grind
    | succ d ih => rw [← Nat.add_assoc, sm, sm, ih, h (s + 1 + d) (by omega)]; grind
  have e := this (n - (s + 1))
  rw [show s + 1 + (n - (s + 1)) = n by omega] at e
  exact e

/-! ### one column in numbers -/
theorem at2_swap {f : M} {p s i j : Nat} (hp : p < f.length) (hs : s < f.length) : at2 (swapR f p s) i j = if i = s then at2 f p j else if i = p then at2 f s j else at2 f i j := by
  unfold at2
  rw [swapR_getD hp hs]
  split
  · rfl
  · split <;> rfl
theorem at2_unit {f : M} {row c i j : Nat} (h : row < f.length) : at2 (unitRow f row c) i j = if i = row then at2 f row j / at2 f row c else at2 f i j := by
  unfold unitRow
  unfold at2
  rw [getD_set h]
  split
  · have e : ∀ l : P, ∀ q : Rat, (l.map fun x => x / q).getD j 0 = l.getD j 0 / q := fun l q => by
      have e1 : ∀ l : P, l.getD j 0 = l[j]?.getD 0 := fun l => List.getD_eq_getElem?_getD
      rw [e1, e1, List.getElem?_map]
      cases l[j]? <;> simp
      grind
    rw [e]
  · rfl
theorem at2_off {f : M} {row c r n i j : Nat} (hR : Rows r n f) (hi : i < r) (hj : j < n) (hrow : row < r) : at2 (offAt f row c r) i j = if i = row then at2 f row j else at2 f i j - at2 f i c * at2 f row j := by
  obtain ⟨h1, h2⟩ := offAt_facts f row c r (by rw [hR.1]; exact Nat.le_refl _)
  have e : at2 (offAt f row c r) i j = (offRow f row c i).getD j 0 := by
    conv => lhs; unfold at2
    rw [h2, if_pos hi]
  rw [e]
  unfold offRow
  by_cases hc : i ≠ row ∧ at2 f i c ≠ 0
  · rw [if_pos hc, if_neg hc.1]
    have hl : j < (f.getD i []).length := by rw [hR.2 i hi]; exact hj
    have e1 : ∀ l : P, l.getD j 0 = l[j]?.getD 0 := fun l => List.getD_eq_getElem?_getD
    rw [e1, List.getElem?_map, List.getElem?_range hl]; rfl
  · rw [if_neg hc]
    by_cases hir : i = row
    · rw [if_pos hir, hir]; rfl
    · rw [if_neg hir]
      have h0 : at2 f i c = 0 := Classical.byContradiction fun q => hc ⟨hir, q⟩
      rw [h0]
      show at2 f i j = _
      grind

/-- what stands behind c columns -/
structure Ech (r n c : Nat) (f : M) (p : List Nat) : Prop where
  rows : Rows r n f
  le : p.length ≤ r
  lt : ∀ x ∈ p, x < c
  nd : p.Nodup
  piv : ∀ a d, p[a]? = some d → ∀ i, i < r → at2 f i d = if i = a then 1 else 0
  low : ∀ i, p.length ≤ i → i < r → ∀ j, j < c → at2 f i j = 0

theorem Ech.step {r n c : Nat} {f : M} {p : List Nat} (E : Ech r n c f p) (hc : c < n) : Ech r n (c + 1) (colStep (f, p) c).1 (colStep (f, p) c).2 ∧
    ∀ v : Nat → Rat, (∀ i, i < r → sm n (at2 (colStep (f, p) c).1 i) v = 0) → ∀ i, i < r → sm n (at2 f i) v = 0 := by
  unfold colStep
  cases hs : spotsOf f p.length c with
  | nil =>
    refine ⟨⟨E.rows, E.le, fun x hx => Nat.lt_succ_of_lt (E.lt x hx), E.nd, E.piv, fun i h1 h2 j hj => ?_⟩, fun v h => h⟩
    by_cases hjc : j < c
    · exact E.low i h1 h2 j hjc
    · have : j = c := by omega
      rw [this]
      exact spots_nil hs i h1 (by rw [E.rows.1]; exact h2)
  | cons s t =>
    obtain ⟨hs1, hs2, hs3⟩ := spots_mem hs
    have hfl := E.rows.1
    have hrow : p.length < r := by omega
    dsimp only
    have hsr : s < r := by omega
    -- the rows before the last step
    have hk : ∀ i j, at2 (unitRow (swapR f p.length s) p.length c) i j = if i = p.length then at2 f s j / at2 f s c else if i = s then at2 f p.length j else at2 f i j := fun i j => by
      rw [at2_unit (by rw [swapR_length]; omega)]
      by_cases hi : i = p.length
      · rw [if_pos hi, if_pos hi, at2_swap (by omega) (by omega), at2_swap (by omega) (by omega)]
        by_cases hps : p.length = s
        · rw [if_pos hps, if_pos hps, hps]
        · rw [if_neg hps, if_neg hps, if_pos rfl, if_pos rfl]
      · rw [if_neg hi, if_neg hi, at2_swap (by omega) (by omega)]
        split
        · rfl
        · first | rfl | rw [if_neg hi]
    have hRu : Rows r n (unitRow (swapR f p.length s) p.length c) := by
      have hp' : p.length < f.length := by omega
      have hS : ∀ t, (swapR f p.length s).getD t [] = if t = s then f.getD p.length [] else if t = p.length then f.getD s [] else f.getD t [] := fun t => swapR_getD hp' hs2
      refine ⟨by unfold unitRow; rw [List.length_set, swapR_length]; exact hfl, fun i hi => ?_⟩
      unfold unitRow
      rw [getD_set (by rw [swapR_length]; exact hp')]
      have hl : ∀ t, t < r → ((swapR f p.length s).getD t []).length = n := fun t ht => by
        rw [hS]; split
        · exact E.rows.2 _ hrow
        · split
          · exact E.rows.2 _ hsr
          · exact E.rows.2 _ ht
      split
      · rw [List.length_map]; exact hl _ hrow
      · exact hl _ hi
    have hf : ∀ i j, i < r → j < n → at2 ((List.range f.length).foldl (offLoop p.length c) (unitRow (swapR f p.length s) p.length c)) i j =
        if i = p.length then at2 f s j / at2 f s c else (if i = s then at2 f p.length j else at2 f i j) - (if i = s then at2 f p.length c else at2 f i c) * (at2 f s j / at2 f s c) := fun i j hi hj => by
      have e := at2_off (c := c) hRu hi hj hrow
      rw [hk, hk, hk] at e
      rw [hfl]
      show at2 (offAt _ _ _ r) i j = _
      rw [e]
      by_cases hip : i = p.length
      · rw [if_pos hip, if_pos hip, if_pos rfl]
      · rw [if_neg hip, if_neg hip, if_neg hip, if_neg hip, if_pos rfl]
    have hone : at2 f s c / at2 f s c = 1 := by grind
    have hlenF : Rows r n ((List.range f.length).foldl (offLoop p.length c) (unitRow (swapR f p.length s) p.length c)) := by
      obtain ⟨q1, q2⟩ := offAt_facts (unitRow (swapR f p.length s) p.length c) p.length c r (by rw [hRu.1]; exact Nat.le_refl _)
      rw [hfl]
      refine ⟨q1.trans hRu.1, fun i hi => ?_⟩
      show ((offAt _ _ _ r).getD i []).length = n
      rw [q2, if_pos hi]
      unfold offRow
      split
      · simp only [List.length_map, List.length_range]; exact hRu.2 i hi
      · exact hRu.2 i hi
    generalize ((List.range f.length).foldl (offLoop p.length c) (unitRow (swapR f p.length s) p.length c)) = F at *
    have hcol : ∀ i, i < r → at2 F i c = if i = p.length then 1 else 0 := fun i hi => by
      rw [hf i c hi hc, hone]
      split
      · rfl
      · grind
    have hcn : ∀ d, d < c → d < n := fun d hd => by omega
    refine ⟨⟨hlenF, by simp; omega, fun x hx => ?_, ?_, fun a d had i hi => ?_, fun i h1 h2 j hj => ?_⟩, fun v hv i hi => ?_⟩
    · rcases List.mem_append.mp hx with q | q
      · exact Nat.lt_succ_of_lt (E.lt x q)
      · rw [List.mem_singleton.mp q]; exact Nat.lt_succ_self c
    · refine List.nodup_append.mpr ⟨E.nd, by simp, fun x hx y hy => ?_⟩
      have := E.lt x hx
      rw [List.mem_singleton.mp hy]; omega
    · by_cases ha : a < p.length
      · rw [List.getElem?_append_left ha] at had
        have hd := E.lt d (List.mem_of_getElem? had)
        have z1 := E.piv a d had s hsr
        rw [if_neg (by omega)] at z1
        have z2 := E.piv a d had p.length hrow
        rw [if_neg (by omega)] at z2
        rw [hf i d hi (hcn d hd), z1, z2]
        by_cases hip : i = p.length
        · rw [if_pos hip, if_neg (by omega)]; grind
        · rw [if_neg hip]
          by_cases his : i = s
          · rw [if_pos his, if_pos his, if_neg (by omega)]; grind
          · rw [if_neg his, if_neg his, E.piv a d had i hi]; grind
      · have hlt := (List.getElem?_eq_some_iff.mp had).1
        have ea : a = p.length := by simp at hlt; omega
        subst ea
        rw [List.getElem?_append_right (Nat.le_refl _), Nat.sub_self] at had
        have : d = c := by simpa using had.symm
        rw [this]
        exact hcol i hi
    · have hil : p.length < i := by rw [List.length_append, List.length_singleton] at h1; omega
      by_cases hjc : j < c
      · have z1 := E.low s hs1 hsr j hjc
        have z2 := E.low p.length (Nat.le_refl _) hrow j hjc
        rw [hf i j h2 (hcn j hjc), z1, z2, if_neg (by omega)]
        by_cases his : i = s
        · rw [if_pos his, if_pos his]; grind
        · rw [if_neg his, if_neg his, E.low i (by omega) h2 j hjc]; grind
      · have : j = c := by omega
        rw [this, hcol i h2, if_neg (by omega)]
    · have r0 : sm n (fun j => at2 f s j / at2 f s c) v = 0 := by
        have := hv p.length hrow
        rw [sm_congr (h := fun j => at2 f s j / at2 f s c) (fun j hj => by rw [hf _ j hrow hj, if_pos rfl])] at this
        exact this
      have hsS : sm n (at2 f s) v = 0 := by
        have e : sm n (at2 f s) v = sm n (fun j => at2 f s c * (at2 f s j / at2 f s c)) v := sm_congr fun j hj => by grind
        rw [e, sm_mul, r0]; grind
      have oth : ∀ i, i < r → i ≠ p.length → sm n (fun j => if i = s then at2 f p.length j else at2 f i j) v = 0 := fun i hi hip => by
        have := hv i hi
        rw [sm_congr (h := fun j => (if i = s then at2 f p.length j else at2 f i j) - (if i = s then at2 f p.length c else at2 f i c) * (at2 f s j / at2 f s c)) (fun j hj => by rw [hf _ j hi hj, if_neg hip]), sm_lin, r0] at this
        grind
      by_cases his : i = s
      · rw [his]; exact hsS
      · by_cases hip : i = p.length
        · by_cases hps : p.length = s
          · rw [hip, hps]; exact hsS
          · have := oth s hsr (by omega)
            rw [sm_congr (h := at2 f p.length) (fun j hj => by rw [if_pos rfl])] at this
            rw [hip]; exact this
        · have := oth i hi hip
          rw [sm_congr (h := at2 f i) (fun j hj => by rw [if_neg his])] at this
          exact this
theorem ech_all {a : M} {r n : Nat} (hR : Rows r n a) : ∀ c, c ≤ n → Ech r n c (echAt a c).1 (echAt a c).2 ∧ ∀ v : Nat → Rat, (∀ i, i < r → sm n (at2 (echAt a c).1 i) v = 0) → ∀ i, i < r → sm n (at2 a i) v = 0
  | 0, _ => ⟨⟨hR, by simp [echAt], fun x hx => by simp [echAt] at hx, by simp [echAt], fun a' d h => by simp [echAt] at h, fun i _ _ j hj => by omega⟩, fun v h => h⟩
  | c + 1, hc => by
    obtain ⟨E, N⟩ := ech_all hR c (by omega)
    rw [echAt_succ]
    obtain ⟨E', N'⟩ := E.step (by omega)
    exact ⟨E', fun v h => N v (N' v h)⟩
end Mine
end
section
set_option linter.unusedVariables false
namespace Mine

theorem getD_setP {l : P} {k j : Nat} {x : Rat} (h : k < l.length) : (l.set k x).getD j 0 = if j = k then x else l.getD j 0 := by
  simp only [List.getD_eq_getElem?_getD, List.getElem?_set]
  by_cases e : k = j
  · subst e; simp [h]
  · simp [e, Ne.symm e]
theorem fill_other (red : M) (c j : Nat) : ∀ (p : List Nat) (i : Nat) (one : P), j ∉ p → (∀ s ∈ p, s < one.length) → (fillRow red c i p one).getD j 0 = one.getD j 0
  | [], i, one, _, _ => rfl
  | s :: r, i, one, h, hl => by
    rw [fillRow, fill_other red c j r (i + 1) _ (fun q => h (.tail _ q)) (fun t ht => by rw [List.length_set]; exact hl t (.tail _ ht)), getD_setP (hl s (.head _)), if_neg (show ¬ j = s from fun e => h (by rw [e]; exact .head _))]
theorem fill_sm {red : M} {c n i0 : Nat} {g : Nat → Rat} : ∀ (p : List Nat) (i : Nat) (one : P), p.Nodup → one.length = n → (∀ s ∈ p, s < n ∧ one.getD s 0 = 0) → (∀ a s, p[a]? = some s → g s = if i0 = i + a then 1 else 0) →
    sm n g (fun j => (fillRow red c i p one).getD j 0) = sm n g (fun j => one.getD j 0) - (if i ≤ i0 ∧ i0 < i + p.length then at2 red i0 c else 0)
  | [], i, one, _, _, _, _ => by
    rw [if_neg (by simp only [List.length_nil]; omega)]
    show sm n g (fun j => one.getD j 0) = _
    grind
  | s :: r, i, one, hn, hl, hz, hg => by
    rw [List.nodup_cons] at hn
    obtain ⟨hs, hs0⟩ := hz s (.head _)
    have ih := fill_sm (red := red) (c := c) (i0 := i0) (g := g) r (i + 1) (one.set s (-(at2 red i c))) hn.2 (by rw [List.length_set]; exact hl)
      (fun t ht => ⟨(hz t (.tail _ ht)).1, by rw [getD_setP (by omega), if_neg (show ¬ t = s from fun e => hn.1 (by rw [← e]; exact ht))]; exact (hz t (.tail _ ht)).2⟩)
      (fun a t hat => by
        have := hg (a + 1) t (by simpa using hat)
        rw [this, show i + (a + 1) = i + 1 + a by omega])
    have g0 := hg 0 s rfl
    rw [Nat.add_zero] at g0
    have hu := sm_upd (n := n) (s := s) (g := g) (v := fun j => one.getD j 0) (w := fun j => (one.set s (-(at2 red i c))).getD j 0) hs (fun j hj => by
      show (one.set s _).getD j 0 = one.getD j 0
      rw [getD_setP (by omega), if_neg hj])
    rw [fillRow, ih, hu]
    rw [getD_setP (by omega), if_pos rfl, hs0, g0]
    simp only [List.length_cons]
    by_cases h1 : i0 = i
    · subst h1
      rw [if_pos rfl, if_neg (by omega), if_pos (by omega)]; grind
    · rw [if_neg h1]
      by_cases h2 : i + 1 ≤ i0 ∧ i0 < i + 1 + r.length
      · rw [if_pos h2, if_pos (by omega)]; grind
      · rw [if_neg h2, if_neg (by omega)]; grind

theorem null_row {r n : Nat} {red : M} {piv : List Nat} (E : Ech r n n red piv) {c0 : Nat} (hc : c0 < n) (hcp : c0 ∉ piv) :
    (nullRow red piv n c0).length = n ∧ (nullRow red piv n c0).getD c0 0 = 1 ∧ ∀ i, i < r → sm n (at2 red i) (fun j => (nullRow red piv n c0).getD j 0) = 0 := by
  have hl : ((List.replicate n (0 : Rat)).set c0 1).length = n := by simp
  have hz : ∀ j, j ≠ c0 → ((List.replicate n (0 : Rat)).set c0 1).getD j 0 = 0 := fun j hj => by
    rw [getD_setP (by simpa using hc), if_neg hj, List.getD_eq_getElem?_getD, List.getElem?_replicate]
    split <;> rfl
  have h1 : ((List.replicate n (0 : Rat)).set c0 1).getD c0 0 = 1 := by rw [getD_setP (by simpa using hc), if_pos rfl]
  refine ⟨by unfold nullRow; rw [fillRow_length]; exact hl, ?_, fun i hi => ?_⟩
  · unfold nullRow
    rw [fill_other red c0 c0 piv 0 _ hcp (fun s hs => by rw [hl]; exact E.lt s hs)]
    exact h1
  · unfold nullRow
    rw [fill_sm (i0 := i) piv 0 _ E.nd hl (fun s hs => ⟨E.lt s hs, hz s (fun e => hcp (e ▸ hs))⟩) (fun a s has => by rw [E.piv a s has i hi, Nat.zero_add])]
    have e : sm n (at2 red i) (fun j => ((List.replicate n (0 : Rat)).set c0 1).getD j 0) = at2 red i c0 := by
      have hu := sm_upd (n := n) (s := c0) (g := at2 red i) (v := fun j => 0) (w := fun j => ((List.replicate n (0 : Rat)).set c0 1).getD j 0) hc (fun j hj => hz j hj)
      rw [hu, h1]
      have hzero : ∀ k, sm k (at2 red i) (fun _ => 0) = 0 := by
        intro k
        induction k with
        | zero => rfl
        | succ k ih => rw [sm, ih]; grind
      rw [hzero]; grind
    rw [e]
    by_cases h : i < piv.length
    · rw [if_pos (by omega)]; grind
    · rw [if_neg (by omega), E.low i (by omega) hi c0 hc]; grind
theorem pigeon : ∀ (n : Nat) (l : List Nat), (∀ x, x < n → x ∈ l) → n ≤ l.length
  | 0, l, _ => Nat.zero_le _
  | n + 1, l, h => by
    have hm := h n (Nat.lt_succ_self n)
    have := pigeon n (l.erase n) (fun x hx => (List.mem_erase_of_ne (by omega)).mpr (h x (by omega)))
    rw [List.length_erase_of_mem hm] at this
    have := List.length_pos_of_mem hm
    omega
theorem free_mem {red : M} {piv : List Nat} {n : Nat} {row : P} (h : row ∈ nullAt red piv n n) : ∃ c0, c0 < n ∧ c0 ∉ piv ∧ row = nullRow red piv n c0 := by
  unfold nullAt at h
  obtain ⟨c0, hc, rfl⟩ := List.mem_map.mp h
  rw [List.mem_filter, List.mem_range] at hc
  exact ⟨c0, hc.1, by simpa using hc.2, rfl⟩
theorem free_len {red : M} {piv : List Nat} {n : Nat} (h : piv.length < n) : 0 < (nullAt red piv n n).length ∧ (nullAt red piv n n).length ≤ n := by
  unfold nullAt
  rw [List.length_map]
  refine ⟨?_, Nat.le_trans (List.length_filter_le _ _) (by rw [List.length_range]; exact Nat.le_refl _)⟩
  refine List.length_pos_iff.mpr fun e => ?_
  rw [List.filter_eq_nil_iff] at e
  have := pigeon n piv fun x hx => by
    have := e x (List.mem_range.mpr hx)
    simpa using this
  omega

/-! ### the lines -/
theorem sm_split (a : Nat) (g v : Nat → Rat) : ∀ b, sm (a + b) g v = sm a g v + sm b (fun j => g (a + j)) (fun j => v (a + j))
  | 0 => by rw [Nat.add_zero]; simp only [sm]; grind
  | b + 1 => by rw [← Nat.add_assoc, sm, sm, sm_split a g v b]; grind
theorem sm_vcongr {n : Nat} {g v w : Nat → Rat} (e : ∀ j, j < n → v j = w j) : sm n g v = sm n g w := by
  induction n with
  | zero => rfl
  | succ n ih => rw [sm, sm, ih fun j hj => e j (by omega), e n (by omega)]
theorem sm_range (x : Rat) (v : Nat → Rat) : ∀ n, sm n (fun j => x ^ j) v = qat ((List.range n).map v) x
  | 0 => rfl
  | n + 1 => by
    rw [sm, sm_range x v n, List.range_succ, List.map_append, qat_append]
    simp only [List.map_cons, List.map_nil, qat_cons, qat_nil, List.length_map, List.length_range]; grind
theorem sm_qat (p : P) (x : Rat) : sm p.length (fun j => x ^ j) (fun j => p.getD j 0) = qat p x := by rw [sm_range, qat_left]
end Mine
end
section
open PySem PySem.W PySem.Calls PyProof.Rows
set_option linter.unusedVariables false
namespace Mine
section
variable {m : Nat} {nums places : Z}

noncomputable def lawLines (m : Nat) (nums places : Z) : M := linesM ((List.range (m + 1)).map (valV m nums places)) places ((m + 1) / 2) (m / 2)
theorem line_at (nums places : Z) {i j : Nat} (hi : i ≤ m) (hj : j < m + 2) : at2 (lawLines m nums places) i j = if j < (m + 1) / 2 + 1 then (((places.getD i 0) ^ j : Int) : Rat) else -(valV m nums places i * (((places.getD i 0) ^ (j - ((m + 1) / 2 + 1)) : Int) : Rat)) := by
  have e1 : (lawLines m nums places).getD i [] = lineRow (places.getD i 0) (valV m nums places i) ((m + 1) / 2) (m / 2) := by
    unfold lawLines linesM
    have hv : ((List.range (m + 1)).map (valV m nums places)).getD i 0 = valV m nums places i := by simp [List.getD_eq_getElem?_getD, show i < m + 1 by omega]
    rw [List.getD_eq_getElem?_getD, List.getElem?_map, List.getElem?_range (by simp; omega), Option.map_some, Option.getD_some, hv]
  unfold at2
  rw [e1]
  unfold lineRow
  have eg : ∀ l : P, l.getD j 0 = l[j]?.getD 0 := fun l => List.getD_eq_getElem?_getD
  rw [eg]
  by_cases h : j < (m + 1) / 2 + 1
  · rw [if_pos h, List.getElem?_append_left (by simpa using h), List.getElem?_map, List.getElem?_range h]; rfl
  · rw [if_neg h, List.getElem?_append_right (by simp; omega), List.length_map, List.length_range, List.getElem?_map, List.getElem?_range (by omega)]; rfl
theorem lines_rows (nums places : Z) : Rows (m + 1) (m + 2) (lawLines m nums places) := by
  refine ⟨by simp [lawLines, linesM], fun i hi => ?_⟩
  unfold lawLines linesM
  rw [List.getD_eq_getElem?_getD, List.getElem?_map, List.getElem?_range (by simp; omega), Option.map_some, Option.getD_some]
  unfold lineRow
  simp; omega
theorem half_le (m : Nat) : (m + 1) / 2 + 1 ≤ m + 2 := by omega
theorem half_rest (m : Nat) : m + 2 - ((m + 1) / 2 + 1) = m / 2 + 1 := by omega
theorem half_prod {m a b c : Nat} (ha : a = (m + 1) / 2 + 1) (hb : b ≤ m / 2 + 1) (hc : c ≤ a + b - 1) : c < m + 2 := by omega
theorem line_eq (nums places : Z) {i : Nat} (hi : i ≤ m) {row : P} (hl : row.length = m + 2) : sm (m + 2) (at2 (lawLines m nums places) i) (fun j => row.getD j 0) = qat (row.take ((m + 1) / 2 + 1)) ((places.getD i 0 : Int) : Rat) - valV m nums places i * qat (row.drop ((m + 1) / 2 + 1)) ((places.getD i 0 : Int) : Rat) := by
  have e : m + 2 = ((m + 1) / 2 + 1) + (m / 2 + 1) := by omega
  have hla : (row.take ((m + 1) / 2 + 1)).length = (m + 1) / 2 + 1 := by rw [List.length_take, hl]; exact Nat.min_eq_left (half_le m)
  have hlb : (row.drop ((m + 1) / 2 + 1)).length = m / 2 + 1 := by rw [List.length_drop, hl]; exact half_rest m
  rw [sm_congr (h := fun j => if j < (m + 1) / 2 + 1 then (((places.getD i 0) ^ j : Int) : Rat) else -(valV m nums places i * (((places.getD i 0) ^ (j - ((m + 1) / 2 + 1)) : Int) : Rat))) (fun j hj => line_at nums places hi hj)]
  rw [e, sm_split]
  have pc : ∀ k : Nat, (((places.getD i 0) ^ k : Int) : Rat) = ((places.getD i 0 : Int) : Rat) ^ k := fun k => by
    induction k with
    | zero => rfl
    | succ k ih => rw [Int.pow_succ, Rat.intCast_mul, ih, Rat.pow_succ]
  have a1 : sm ((m + 1) / 2 + 1) (fun j => if j < (m + 1) / 2 + 1 then (((places.getD i 0) ^ j : Int) : Rat) else -(valV m nums places i * (((places.getD i 0) ^ (j - ((m + 1) / 2 + 1)) : Int) : Rat))) (fun j => row.getD j 0) = qat (row.take ((m + 1) / 2 + 1)) ((places.getD i 0 : Int) : Rat) := by
    rw [← sm_qat, hla, sm_congr (h := fun j => ((places.getD i 0 : Int) : Rat) ^ j) (fun j hj => by rw [if_pos hj, pc])]
    exact sm_vcongr fun j hj => by
      rw [List.getD_eq_getElem?_getD, List.getD_eq_getElem?_getD, List.getElem?_take, if_pos hj]
  have a2 : sm (m / 2 + 1) (fun j => if (m + 1) / 2 + 1 + j < (m + 1) / 2 + 1 then (((places.getD i 0) ^ ((m + 1) / 2 + 1 + j) : Int) : Rat) else -(valV m nums places i * (((places.getD i 0) ^ ((m + 1) / 2 + 1 + j - ((m + 1) / 2 + 1)) : Int) : Rat))) (fun j => row.getD ((m + 1) / 2 + 1 + j) 0) = -(valV m nums places i) * qat (row.drop ((m + 1) / 2 + 1)) ((places.getD i 0 : Int) : Rat) := by
    rw [← sm_qat, hlb, ← sm_mul]
    rw [sm_congr (h := fun j => -(valV m nums places i) * ((places.getD i 0 : Int) : Rat) ^ j) (fun j hj => by
      rw [if_neg (by omega), Nat.add_sub_cancel_left, pc]; grind)]
    exact sm_vcongr fun j hj => by
      rw [List.getD_eq_getElem?_getD, List.getD_eq_getElem?_getD, List.getElem?_drop]
  rw [a1, a2]; grind

noncomputable def lawFree (m : Nat) (nums places : Z) : M := nullAt (echAt (lawLines m nums places) (m + 2)).1 (echAt (lawLines m nums places) (m + 2)).2 (m + 2) (m + 2)

/-- a free row is a multiple of the term -/
theorem free_row (G : Good m nums places) {row : P} (hr : row ∈ lawFree m nums places) : row.length = m + 2 ∧ ∃ γ : Rat, γ ≠ 0 ∧ Bd 17 γ ∧ (∀ x, qat (row.take ((m + 1) / 2 + 1)) x = γ * qat (Pv m nums places 0) x) ∧ (∀ x, qat (row.drop ((m + 1) / 2 + 1)) x = γ * qat (Pv m nums places 1) x) := by
  obtain ⟨E, N⟩ := ech_all (lines_rows (m := m) nums places) (m + 2) (Nat.le_refl _)
  obtain ⟨c0, hc, hcp, rfl⟩ := free_mem hr
  obtain ⟨hl, h1, hz⟩ := null_row E hc hcp
  generalize nullRow _ _ (m + 2) c0 = row at *
  refine ⟨hl, ?_⟩
  have hN := N _ hz
  have hla : (row.take ((m + 1) / 2 + 1)).length = (m + 1) / 2 + 1 := by rw [List.length_take, hl]; exact Nat.min_eq_left (half_le m)
  have hlb : (row.drop ((m + 1) / 2 + 1)).length = m / 2 + 1 := by rw [List.length_drop, hl]; exact half_rest m
  have hval : ∀ i, i ≤ m → qat (row.take ((m + 1) / 2 + 1)) ((places.getD i 0 : Int) : Rat) = valV m nums places i * qat (row.drop ((m + 1) / 2 + 1)) ((places.getD i 0 : Int) : Rat) := fun i hi => by
    have := hN i (by omega)
    rw [line_eq nums places hi hl] at this
    grind
  have tg : ∀ j, row.getD j 0 = if j < (m + 1) / 2 + 1 then (row.take ((m + 1) / 2 + 1)).getD j 0 else (row.drop ((m + 1) / 2 + 1)).getD (j - ((m + 1) / 2 + 1)) 0 := fun j => by
    split
    · rename_i h; rw [List.getD_eq_getElem?_getD, List.getD_eq_getElem?_getD, List.getElem?_take, if_pos h]
    · rename_i h; rw [List.getD_eq_getElem?_getD, List.getD_eq_getElem?_getD, List.getElem?_drop, show (m + 1) / 2 + 1 + (j - ((m + 1) / 2 + 1)) = j by omega]
  generalize row.take ((m + 1) / 2 + 1) = t at *
  generalize row.drop ((m + 1) / 2 + 1) = b at *
  have l0 := Pv_zero_len G
  have l1 := Pv_len G 1
  have cross : ∀ x, qat t x * qat (Pv m nums places 1) x = qat b x * qat (Pv m nums places 0) x := by
    have hD : ∀ x, qat (qsub (qmul t (Pv m nums places 1)) (qmul b (Pv m nums places 0))) x = 0 := by
      refine roots ((List.range (m + 1)).map fun i => ((places.getD i 0 : Int) : Rat)) _ ?_ ?_ ?_
      · have q0 := qsub_length (qmul t (Pv m nums places 1)) (qmul b (Pv m nums places 0))
        have q1 := qmul_length_le t (Pv m nums places 1)
        have q2 := qmul_length_le b (Pv m nums places 0)
        rw [List.length_map, List.length_range]
        refine Nat.le_trans q0 (Nat.max_le.mpr ⟨Nat.le_of_lt_succ (half_prod hla l1 q1), Nat.le_of_lt_succ (half_prod l0 (Nat.le_of_eq hlb) (by rw [Nat.add_comm]; exact q2))⟩)
      · rw [List.nodup_iff_pairwise_ne, List.pairwise_map]
        refine List.Pairwise.imp_of_mem ?_ (List.pairwise_lt_range)
        intro i j hi hj hij e
        rw [List.mem_range] at hi hj
        have : places.getD i 0 = places.getD j 0 := by exact_mod_cast e
        have := G.lt (i := i) (j - i - 1) (by omega)
        rw [show i + (j - i - 1) + 1 = j by omega] at this
        omega
      · intro r hr
        obtain ⟨i, hi, rfl⟩ := List.mem_map.mp hr
        rw [List.mem_range] at hi
        have hx := laterGet (m := m) (places := places) G.lp (s := i) (by omega)
        have hv := valV_eq G (s := i) (by omega)
        rw [hx] at hv
        have hp := Pv_pos G (X := places.getD i 0) (by rw [← hx]; exact (later_ge G (by omega)).1) (k := 1) (by decide)
        rw [qat_qsub, qat_qmul, qat_qmul, hval i (by omega), hv]
        generalize qat (Pv m nums places 1) _ = p at *
        grind
    intro x
    have := hD x
    rw [qat_qsub, qat_qmul, qat_qmul] at this
    grind
  obtain ⟨u, v, huv⟩ := Pv_copk G (k := 0) (by omega)
  rw [Nat.zero_add] at huv
  have c1 : ∀ x, qat t x = qat (Pv m nums places 0) x * qat (qadd (qmul u t) (qmul v b)) x := fun x => by
    rw [qat_qadd, qat_qmul, qat_qmul]
    have e1 := huv x
    have e2 := cross x
    grind
  have c2 : ∀ x, qat b x = qat (Pv m nums places 1) x * qat (qadd (qmul u t) (qmul v b)) x := fun x => by
    rw [qat_qadd, qat_qmul, qat_qmul]
    have e1 := huv x
    have e2 := cross x
    grind
  have tc := Tr.qadd (qmul u t) (qmul v b)
  generalize qadd (qmul u t) (qmul v b) = c at *
  have et : trim 0 t = qmul (Pv m nums places 0) c := tr_eq (Tr.trim t) ((Pv_Tr G 0).qmul tc) fun x => by rw [qat_trim, qat_qmul, c1]
  have hc0 : c ≠ [] := fun e => by
    have z1 := zero_coefs t fun x => by rw [c1, e, qat_nil]; grind
    have z2 := zero_coefs b fun x => by rw [c2, e, qat_nil]; grind
    have := tg c0
    rw [h1] at this
    split at this
    · rw [z1] at this; exact absurd this (by decide)
    · rw [z2] at this; exact absurd this (by decide)
  have hlc : c.length = 1 := by
    have q1 := qmul_length (Pv_ne0 G 0) hc0
    have q2 := trim_length 0 t
    rw [et, q1] at q2
    have := List.length_pos_iff.mpr hc0
    omega
  obtain ⟨γ, rfl⟩ : ∃ γ, c = [γ] := by
    match c, hlc with
    | [γ], _ => exact ⟨γ, rfl⟩
  have hγ : γ ≠ 0 := tc (by simp)
  have d1 : ∀ x, qat t x = γ * qat (Pv m nums places 0) x := fun x => by rw [c1]; simp only [qat_cons, qat_nil]; grind
  have d2 : ∀ x, qat b x = γ * qat (Pv m nums places 1) x := fun x => by rw [c2]; simp only [qat_cons, qat_nil]; grind
  have inv : ∀ (p : P) (j : Nat), BdP 17 p → p.getD j 0 * γ = 1 → Bd 17 γ := fun p j hb he => by
    have hne : p.getD j 0 ≠ 0 := fun e => by rw [e] at he; exact absurd he (by rw [Rat.zero_mul]; decide)
    have : γ = (p.getD j 0)⁻¹ := by grind
    rw [this]
    exact (hb.getD (by decide) j).inv hne
  have cf : ∀ (q p : P), (∀ x, qat q x = γ * qat p x) → ∀ j, q.getD j 0 = p.getD j 0 * γ := fun q p h j => by
    have := eq_coefs (p := q) (q := p.map fun y => y * γ) (fun x => by rw [qat_map_mul, h]; grind) j
    rw [this, List.getD_eq_getElem?_getD, List.getD_eq_getElem?_getD, List.getElem?_map]
    cases p[j]? <;> simp [Rat.zero_mul]
  refine ⟨γ, hγ, ?_, d1, d2⟩
  have := tg c0
  rw [h1] at this
  split at this
  · exact inv _ c0 (Pv_Bd G 0) (by rw [← cf t _ d1]; exact this.symm)
  · exact inv _ _ (Pv_Bd G 1) (by rw [← cf b _ d2]; exact this.symm)
end
end Mine
end
section
open PySem PySem.W PySem.Calls PyProof.Rows
set_option linter.unusedVariables false
namespace Mine
section
variable {m : Nat} {nums places : Z} {C : Cx}

theorem pow_Bd (G : Good m nums places) (i p : Nat) (hp : p ≤ 2) : Bd 10 (((places.getD i 0) ^ p : Int) : Rat) := by
  refine Bd.int ?_ (by decide)
  rw [Int.natAbs_pow]
  have h1 : (places.getD i 0).natAbs ^ p ≤ 10 ^ p := Nat.pow_le_pow_left (G.placeAbs i) p
  have h2 : 10 ^ p ≤ 10 ^ 2 := Nat.pow_le_pow_right (by decide) hp
  have h3 : 10 ^ 2 < 2 ^ 10 := by decide
  omega
theorem lines_Bd (H : Facts C) (G : Good m nums places) : BdR 144 (lawLines m nums places) := fun i => by
  have h4 := G.m4
  by_cases hi : i < m + 1
  · have e1 : (lawLines m nums places).getD i [] = lineRow (places.getD i 0) (valV m nums places i) ((m + 1) / 2) (m / 2) := by
      unfold lawLines linesM
      have hv : ((List.range (m + 1)).map (valV m nums places)).getD i 0 = valV m nums places i := by simp [List.getD_eq_getElem?_getD, hi]
      rw [List.getD_eq_getElem?_getD, List.getElem?_map, List.getElem?_range (by simp; omega), Option.map_some, Option.getD_some, hv]
    rw [e1]
    intro q hq
    unfold lineRow at hq
    rcases List.mem_append.mp hq with h | h
    · obtain ⟨p, hp, rfl⟩ := List.mem_map.mp h
      rw [List.mem_range] at hp
      exact (pow_Bd G i p (by omega)).mono (by decide)
    · obtain ⟨p, hp, rfl⟩ := List.mem_map.mp h
      rw [List.mem_range] at hp
      exact ((valV_Bd H G (s := i) (by omega)).mul (pow_Bd G i p (by omega))).neg
  · have e : (lawLines m nums places).getD i [] = [] := by
      rw [List.getD_eq_getElem?_getD, List.getElem?_eq_none (by have := (lines_rows (m := m) nums places).1; omega)]; rfl
    rw [e]; intro q hq; cases hq
theorem zmul_ok (H : Facts C) {a b : Z} {x y : Nat} (ha : Mx x a) (hb : Mx y b) (hx : x < 2 ^ 30) (hy : y < 2 ^ 30) (la : a.length ≤ 100) (lb : b.length ≤ 100) : FnSpec C 10 (Str.ofString "zmul") [encZ a, encZ b] (.val (encZ (zmul a b))) :=
  (zmul_spec H (BdZ.of ha hx) (BdZ.of hb hy) (by have : Lim = 67108864 := rfl; omega) (by omega) (by omega)).le (show 1 ≤ 10 by decide)
theorem det_Mx (G : Good m nums places) {k : Nat} (hk : k ≤ 4) : Mx 9150625 (detZ places k) := by
  refine (det_size G k hk).2.mono ?_
  have : 55 ^ k ≤ 55 ^ 4 := Nat.pow_le_pow_right (by decide) hk
  have e : 55 ^ 4 = 9150625 := by decide
  omega
theorem line2_Mx (G : Good m nums places) (k : Nat) : Mx 11 [0 - places.getD k 0, 1] := fun q hq => by
  have := G.placeAbs k
  rcases List.mem_cons.mp hq with e | e
  · rw [e]; omega
  · rw [List.mem_singleton.mp e]; decide
theorem zsub_ok (H : Facts C) {a b : Z} (la : a.length ≤ 500) (lb : b.length ≤ 500) : FnSpec C 10 (Str.ofString "zsub") [encZ a, encZ b] (.val (encZ (zsub a b))) := (zsub_spec H (by omega) (by omega)).le (show 3 ≤ 10 by decide)
theorem row_ok (H : Facts C) (G : Good m nums places) {r : P} (hr : r ∈ lawFree m nums places) : r.length ≤ 100 ∧ trim 0 (r.drop ((m + 1) / 2 + 1)) ≠ [] ∧ FnSpec C 10 (Str.ofString "fmake") [encP (trim 0 (r.take ((m + 1) / 2 + 1))), encP (trim 0 (r.drop ((m + 1) / 2 + 1)))] (.val (encF (chF m nums places 0))) := by
  have h4 := G.m4
  obtain ⟨hl, γ, h0, hb, d1, d2⟩ := free_row G hr
  have lt : (trim 0 (r.take ((m + 1) / 2 + 1))).length ≤ 3 := Nat.le_trans (trim_length _ _) (by rw [List.length_take]; omega)
  have lb : (trim 0 (r.drop ((m + 1) / 2 + 1))).length ≤ 3 := Nat.le_trans (trim_length _ _) (by rw [List.length_drop]; omega)
  have tt := Tr.trim (r.take ((m + 1) / 2 + 1))
  have tb := Tr.trim (r.drop ((m + 1) / 2 + 1))
  have v1 : ∀ x, qat (trim 0 (r.take ((m + 1) / 2 + 1))) x = γ * qat (Pv m nums places 0) x := fun x => by rw [qat_trim, d1]
  have v2 : ∀ x, qat (trim 0 (r.drop ((m + 1) / 2 + 1))) x = γ * qat (Pv m nums places 1) x := fun x => by rw [qat_trim, d2]
  generalize trim 0 (r.take ((m + 1) / 2 + 1)) = t at *
  generalize trim 0 (r.drop ((m + 1) / 2 + 1)) = b at *
  have cop := cop_scale h0 (Pv_copk G (k := 0) (by omega)) v1 v2
  have nt := ne_of_val (x := 0) h0 v1 (Pv_ne0 G 0) (Pv_Tr G 0)
  have nb := ne_of_val (x := 0) h0 v2 (Pv_ne0 G 1) (Pv_Tr G 1)
  have e : fmake t b = chF m nums places 0 := fmake_eq tt tb (Pv_Tr G 0) (Pv_Tr G 1) h0 v1 v2 cop nt nb
  have et : t = qscale (Pv m nums places 0) γ := scale_last tt (Pv_Tr G 0) h0 v1
  have eb : b = qscale (Pv m nums places 1) γ := scale_last tb (Pv_Tr G 1) h0 v2
  have bt : BdP 34 t := by rw [et]; exact (Pv_Bd G 0).qscale hb
  have bb : BdP 34 b := by rw [eb]; exact (Pv_Bd G 1).qscale hb
  refine ⟨by omega, nb, ?_⟩
  rw [← e]
  refine (fmake_spec H (k := 34) bt bb (by decide) ?_ (by omega) (by omega) tt tb nb (fun _ => gcd_one tt tb cop)).le (show 8 ≤ 10 by decide)
  exact Nat.le_trans (Nat.mul_le_mul_left _ (pow_le2 (show _ ≤ 16 by omega))) (by decide)

noncomputable def lawOk (H : Facts C) (m : Nat) (nums places : Z) (G : Good m nums places) : LawOk C m nums places where
  tops := fun k => convTop nums places (k + 1)
  bots := fun k => convBot nums places (k + 1)
  steps := steps_ok H G
  told := chF m nums places 0
  within := within_ok H G
  ltop := fun k hk => by
    have h4 := G.m4
    exact ⟨Nat.le_trans (top3 nums places (k + 1) (by omega)) (by decide), Nat.le_trans (bot3 nums places (k + 1) (by omega)) (by decide)⟩
  make := make_ok H G
  V := valV m nums places
  fat := fun s hs => fat_ok H G hs
  zt := fun k s hs hk => by
    have h4 := G.m4
    exact (zat_ok H G (top_Mx G (k + 1) (by omega)) (Nat.le_trans (top3 nums places (k + 1) (by omega)) (by decide)) (Nat.le_trans (G.placeAbs s) (by decide))).1
  zb := fun k s hs hk => by
    have h4 := G.m4
    exact (zat_ok H G (bot_Mx G (k + 1) (by omega)) (Nat.le_trans (bot3 nums places (k + 1) (by omega)) (by decide)) (Nat.le_trans (G.placeAbs s) (by decide))).1
  zok := fun k s hs hk => by
    have h4 := G.m4
    have b1 := (zat_ok H G (top_Mx G (k + 1) (by omega)) (Nat.le_trans (top3 nums places (k + 1) (by omega)) (by decide)) (X := places.getD s 0) (Nat.le_trans (G.placeAbs s) (by decide))).2
    have b2 := (zat_ok H G (bot_Mx G (k + 1) (by omega)) (Nat.le_trans (bot3 nums places (k + 1) (by omega)) (by decide)) (X := places.getD s 0) (Nat.le_trans (G.placeAbs s) (by decide))).2
    have bv := valV_Bd H G (s := s) (by omega)
    exact ⟨mulOk b1 (n := 67) (m := 134) (by show (valV m nums places s).den < _; exact bv.2) (by decide), mulOk b2 (n := 67) (m := 134) bv.1 (by decide), check_ok G hs hk⟩
  D := detZ places
  D0 := rfl
  R := fun k => zmul (detZ places k) [0 - places.getD k 0, 1]
  d1 := fun k hk => by
    have h4 := G.m4
    have := (det_size G k (by omega)).1
    exact zmul_ok H (det_Mx G (by omega)) (line2_Mx G k) (by decide) (by decide) (by omega) (by simp)
  d2 := fun k hk => by
    have h4 := G.m4
    have h1 := (det_size G k (by omega)).1
    have h2 := (det_Mx G (k := k) (by omega)).zmul (line2_Mx G k)
    have h3 := zmul_length_le (detZ places k) [0 - places.getD k 0, 1]
    have h5 : (detZ places k).length * (9150625 * 11) ≤ 5 * (9150625 * 11) := Nat.mul_le_mul_right _ (by omega)
    simp only [List.length_cons, List.length_nil] at h3
    exact (zscale_spec H (n := 40) (m := 2) (BdZ.of h2 (Nat.lt_of_le_of_lt h5 (by decide))) (by decide) (by decide) (by omega)).le (show 1 ≤ 10 by decide)
  A := fun k => zmul (convTop nums places (k + 2)) (convBot nums places (k + 1))
  d3 := fun k hk => by
    have h4 := G.m4
    exact zmul_ok H (top_Mx G (k + 2) (by omega)) (bot_Mx G (k + 1) (by omega)) (by decide) (by decide) (Nat.le_trans (top3 nums places (k + 2) (by omega)) (by decide)) (Nat.le_trans (bot3 nums places (k + 1) (by omega)) (by decide))
  B := fun k => zmul (convTop nums places (k + 1)) (convBot nums places (k + 2))
  d4 := fun k hk => by
    have h4 := G.m4
    exact zmul_ok H (top_Mx G (k + 1) (by omega)) (bot_Mx G (k + 2) (by omega)) (by decide) (by decide) (Nat.le_trans (top3 nums places (k + 1) (by omega)) (by decide)) (Nat.le_trans (bot3 nums places (k + 2) (by omega)) (by decide))
  d5 := fun k hk => by
    have h4 := G.m4
    rw [← det_eq nums places k]
    have q1 := zmul_length_le (convTop nums places (k + 2)) (convBot nums places (k + 1))
    have q2 := zmul_length_le (convTop nums places (k + 1)) (convBot nums places (k + 2))
    have t1 := top3 nums places (k + 2) (by omega)
    have t2 := top3 nums places (k + 1) (by omega)
    have b1 := bot3 nums places (k + 2) (by omega)
    have b2 := bot3 nums places (k + 1) (by omega)
    exact zsub_ok H (by omega) (by omega)
  back := back_ok H G
  lines := lawLines m nums places
  dlines := by
    have h4 := G.m4
    have lp := G.lp
    refine (lines_spec H (values := (List.range (m + 1)).map (valV m nums places)) (places := places) (above := (m + 1) / 2) (below := m / 2) (n := 134) (m := 4) (by simp; omega) (by simp; omega) (by omega) (by omega) (by omega) (fun q hq => ?_) (fun i hi => natAbs_lt_of (G.placeAbs i) (by decide)) (by decide) (by decide)).le (show 4 ≤ 10 by decide)
    obtain ⟨s, hs, rfl⟩ := List.mem_map.mp hq
    rw [List.mem_range] at hs
    exact valV_Bd H G (by omega)
  free := lawFree m nums places
  dfree := by
    have h4 := G.m4
    refine (null_spec H (lines_rows (m := m) nums places) (lines_Bd H G) (by decide) (by omega) (by omega) (by omega) ?_).le (show 6 ≤ 10 by decide)
    exact Nat.le_trans (eB_mono 144 (show m + 2 ≤ 6 by omega)) (by decide)
  lfree := by
    have h4 := G.m4
    obtain ⟨E, _⟩ := ech_all (lines_rows (m := m) nums places) (m + 2) (Nat.le_refl _)
    have hle := E.le
    obtain ⟨h1, h2⟩ := free_len (red := (echAt (lawLines m nums places) (m + 2)).1) (piv := (echAt (lawLines m nums places) (m + 2)).2) (n := m + 2) (by omega)
    exact ⟨h1, Nat.le_trans h2 (by omega)⟩
  rows := fun r hr => row_ok H G hr
  ends := by
    have h4 := G.m4
    exact ⟨Nat.le_trans (top_len nums places (m + 1) (by omega)) (by omega), Nat.le_trans (bot_len nums places (m + 1) (by omega)) (by omega)⟩
end
theorem final : PySem.Challenge.rw_xm0144_01.Holds := holds_of fun C H m nums places G => lawOk H m nums places G
end Mine
end
set_option maxHeartbeats 4000000 in
theorem PySem.Challenge.cw_xm0144_01_holds : PySem.Challenge.rw_xm0144_01.Holds := by
  exact Mine.final
