import PyProof.Rows.All
import PyProof.LetGo
import PyProof.CompFree
import Wide.All
import OpenK.AllK
import KE.KNest
import KE.KMethU
import KE.KPar
import Wide.FinOn
import Lean
import PySem.Challenge.RW_sj0061_01
section
open PySem PySem.W PySem.Calls PyProof.Rows
set_option Elab.async false
set_option autoImplicit false
set_option linter.all false
set_option maxRecDepth 100000
namespace Mine

/-- abstract values: ints, strs .. by content; tuples by content; lists, dicts, cells by location; instances by identity and their dict's location -/
inductive PV where
  | none
  | bool (b : Bool)
  | int (i : Int)
  | str (x : Str)
  | tup (l : List PV)
  | loc (i : Nat)
  | obj (a C : Addr) (j : Nat)
  | val (v : Value)

inductive Cell where
  | list (xs : List PV)
  | dict (es : List (Str × PV))
  | cell (v : Option PV)
  | inst (C : Addr) (j : Nat)
  | fn (name qual : Str) (params : Arguments) (body : List Stmt) (scope : Scope) (cs : List (Str × Nat)) (ic : Nat)
  | code (qual : Str)
  | tab (ps : List Pos)
  | obj (o : Obj)

noncomputable abbrev Frz := Addr → Option Obj
noncomputable abbrev tupObj (vs : List Value) : Obj := { cls := .type "tuple", data := .seq vs.toArray }

mutual
inductive Rep (ρ : List Addr) (F : Frz) : Value → PV → Prop
  | none : Rep ρ F .none .none
  | bool (b : Bool) : Rep ρ F (.bool b) (.bool b)
  | int (i : Int) (t : Tok) : Rep ρ F (.int i t) (.int i)
  | str (x : Str) (t : Tok) : Rep ρ F (.str x t) (.str x)
  | tup {a : Addr} {vs : List Value} {l : List PV} : F a = some (tupObj vs) → Reps ρ F vs l → Rep ρ F (.ref a) (.tup l)
  | loc {a : Addr} {i : Nat} : ρ[i]? = some a → Rep ρ F (.ref a) (.loc i)
  | obj {a C d : Addr} {j : Nat} : F a = some (instObj C d) → ρ[j]? = some d → Rep ρ F (.ref a) (.obj a C j)
  | val (v : Value) : Rep ρ F v (.val v)
inductive Reps (ρ : List Addr) (F : Frz) : List Value → List PV → Prop
  | nil : Reps ρ F [] []
  | cons {v : Value} {p : PV} {vs : List Value} {l : List PV} : Rep ρ F v p → Reps ρ F vs l → Reps ρ F (v :: vs) (p :: l)
end

noncomputable def FLe (F F' : Frz) : Prop := ∀ a o, F a = some o → F' a = some o
theorem FLe.refl (F : Frz) : FLe F F := fun _ _ e => e
theorem FLe.trans {F G H : Frz} (a : FLe F G) (b : FLe G H) : FLe F H := fun x o e => b x o (a x o e)

theorem pre_get {α : Type} {l l' : List α} (h : l <+: l') {i : Nat} {x : α} (e : l[i]? = some x) : l'[i]? = some x := by
  obtain ⟨t, rfl⟩ := h
  have hi : i < l.length := by
    rcases Nat.lt_or_ge i l.length with q | q
    · exact q
    · rw [List.getElem?_eq_none q] at e; cases e
  rw [List.getElem?_append_left hi]; exact e

mutual
theorem Rep.mono {ρ ρ' : List Addr} {F F' : Frz} (hρ : ρ <+: ρ') (hF : FLe F F') : ∀ {v : Value} {p : PV}, Rep ρ F v p → Rep ρ' F' v p
  | _, _, .none => .none
  | _, _, .bool b => .bool b
  | _, _, .int i t => .int i t
  | _, _, .str x t => .str x t
  | _, _, .tup h r => .tup (hF _ _ h) (Reps.mono hρ hF r)
  | _, _, .loc h => .loc (pre_get hρ h)
  | _, _, .obj h q => .obj (hF _ _ h) (pre_get hρ q)
  | _, _, .val v => .val v
theorem Reps.mono {ρ ρ' : List Addr} {F F' : Frz} (hρ : ρ <+: ρ') (hF : FLe F F') : ∀ {vs : List Value} {l : List PV}, Reps ρ F vs l → Reps ρ' F' vs l
  | _, _, .nil => .nil
  | _, _, .cons h r => .cons (Rep.mono hρ hF h) (Reps.mono hρ hF r)
end

theorem Reps.length {ρ : List Addr} {F : Frz} : ∀ {vs : List Value} {l : List PV}, Reps ρ F vs l → vs.length = l.length
  | _, _, .nil => rfl
  | _, _, .cons _ r => by rw [List.length_cons, List.length_cons, r.length]
theorem Reps.get {ρ : List Addr} {F : Frz} : ∀ {vs : List Value} {l : List PV}, Reps ρ F vs l → ∀ {i : Nat} {p : PV}, l[i]? = some p → ∃ v, vs[i]? = some v ∧ Rep ρ F v p
  | _, _, .nil, i, p, e => by simp at e
  | _, _, .cons h r, 0, p, e => by
    simp only [List.getElem?_cons_zero, Option.some.injEq] at e
    subst e; exact ⟨_, rfl, h⟩
  | _, _, .cons _ r, i + 1, p, e => by
    simp only [List.getElem?_cons_succ] at e
    exact r.get e
theorem Reps.append {ρ : List Addr} {F : Frz} : ∀ {vs : List Value} {l : List PV}, Reps ρ F vs l → ∀ {ws : List Value} {m : List PV}, Reps ρ F ws m → Reps ρ F (vs ++ ws) (l ++ m)
  | _, _, .nil, _, _, h => h
  | _, _, .cons h r, _, _, q => .cons h (r.append q)
theorem Reps.set {ρ : List Addr} {F : Frz} {v : Value} {p : PV} (hv : Rep ρ F v p) : ∀ {vs : List Value} {l : List PV}, Reps ρ F vs l → ∀ (i : Nat), Reps ρ F (vs.set i v) (l.set i p)
  | _, _, .nil, _ => .nil
  | _, _, .cons _ r, 0 => .cons hv r
  | _, _, .cons h r, i + 1 => .cons h (Reps.set hv r i)
theorem Reps.drop {ρ : List Addr} {F : Frz} : ∀ {vs : List Value} {l : List PV}, Reps ρ F vs l → ∀ (n : Nat), Reps ρ F (vs.drop n) (l.drop n)
  | _, _, h, 0 => h
  | _, _, .nil, n + 1 => .nil
  | _, _, .cons _ r, n + 1 => r.drop n
theorem Reps.take {ρ : List Addr} {F : Frz} : ∀ {vs : List Value} {l : List PV}, Reps ρ F vs l → ∀ (n : Nat), Reps ρ F (vs.take n) (l.take n)
  | _, _, _, 0 => .nil
  | _, _, .nil, n + 1 => .nil
  | _, _, .cons h r, n + 1 => .cons h (r.take n)
theorem Reps.reverse {ρ : List Addr} {F : Frz} : ∀ {vs : List Value} {l : List PV}, Reps ρ F vs l → Reps ρ F vs.reverse l.reverse
  | _, _, .nil => .nil
  | _, _, .cons h r => by rw [List.reverse_cons, List.reverse_cons]; exact r.reverse.append (.cons h .nil)

noncomputable def DictRep (ρ : List Addr) (F : Frz) : List DictEntry → List (Str × PV) → Prop
  | [], [] => True
  | e :: es, x :: xs => (∃ t, e.key = .str x.1 t) ∧ Rep ρ F e.val x.2 ∧ DictRep ρ F es xs
  | _, _ => False
theorem DictRep.mono {ρ ρ' : List Addr} {F F' : Frz} (hρ : ρ <+: ρ') (hF : FLe F F') : ∀ {es : List DictEntry} {xs : List (Str × PV)}, DictRep ρ F es xs → DictRep ρ' F' es xs
  | [], [], _ => trivial
  | _ :: _, _ :: _, ⟨a, b, c⟩ => ⟨a, b.mono hρ hF, DictRep.mono hρ hF c⟩
  | [], _ :: _, h => h.elim
  | _ :: _, [], h => h.elim

noncomputable def ClosAt (ρ : List Addr) : List (Str × Addr) → List (Str × Nat) → Prop
  | [], [] => True
  | (n, a) :: r, (n', i) :: r' => n = n' ∧ ρ[i]? = some a ∧ ClosAt ρ r r'
  | _, _ => False
theorem ClosAt.mono {ρ ρ' : List Addr} (hρ : ρ <+: ρ') : ∀ {l : List (Str × Addr)} {m : List (Str × Nat)}, ClosAt ρ l m → ClosAt ρ' l m
  | [], [], _ => trivial
  | _ :: _, _ :: _, ⟨a, b, c⟩ => ⟨a, pre_get hρ b, ClosAt.mono hρ c⟩
  | [], _ :: _, h => h.elim
  | _ :: _, [], h => h.elim
noncomputable def CellAt (ρ : List Addr) (F : Frz) (h : Heap) (a : Addr) : Cell → Prop
  | .list xs => ∃ vs n, h.get? a = some (listOf vs n) ∧ Reps ρ F vs.toList xs ∧ vs.size ≤ 1000
  | .dict es => ∃ ds n, h.get? a = some (dictOf ds n) ∧ DictRep ρ F ds es ∧ ds.length ≤ 100
  | .cell none => ∃ o, h.get? a = some o ∧ o.data = .cell Option.none
  | .cell (some p) => ∃ o v, h.get? a = some o ∧ o.data = .cell (some v) ∧ Rep ρ F v p
  | .inst C j => ∃ d, h.get? a = some (instObj C d) ∧ ρ[j]? = some d
  | .fn name qual params body scope cs ic => ∃ doc pm c' ctv clos, h.get? a = some (fnMade name qual params body scope clos doc pm c' ctv) ∧ ρ[ic]? = some c' ∧ ClosAt ρ clos cs
  | .code qual => ∃ o vs t, h.get? a = some o ∧ o.data = .fields vs ∧ vs[1]? = some (.str qual t)
  | .obj o => h.get? a = some o
  | .tab ps => ∃ vs, h.get? a = some (tabObj vs) ∧ TriplesOk vs.toList ∧ ∀ pos, (∀ q ∈ ps, ¬ (q.line = pos.line ∧ q.col = pos.col)) → codeAmong pos vs.toList = Option.none
theorem CellAt.mono {ρ ρ' : List Addr} {F F' : Frz} {h h' : Heap} {a : Addr} (hρ : ρ <+: ρ') (hF : FLe F F') (hh : ∀ o, h.get? a = some o → h'.get? a = some o) : ∀ {c : Cell}, CellAt ρ F h a c → CellAt ρ' F' h' a c
  | .list _, ⟨vs, n, e, r, z⟩ => ⟨vs, n, hh _ e, r.mono hρ hF, z⟩
  | .dict _, ⟨ds, n, e, r, z⟩ => ⟨ds, n, hh _ e, r.mono hρ hF, z⟩
  | .cell none, ⟨o, e, d⟩ => ⟨o, hh _ e, d⟩
  | .cell (some _), ⟨o, v, e, d, r⟩ => ⟨o, v, hh _ e, d, r.mono hρ hF⟩
  | .inst _ _, ⟨d, e, r⟩ => ⟨d, hh _ e, pre_get hρ r⟩
  | .fn _ _ _ _ _ _ _, ⟨x1, x2, x3, x4, x5, e, r, z⟩ => ⟨x1, x2, x3, x4, x5, hh _ e, pre_get hρ r, z.mono hρ⟩
  | .code _, ⟨o, vs, t, e, r⟩ => ⟨o, vs, t, hh _ e, r⟩
  | .obj _, e => hh _ e
  | .tab _, ⟨vs, e, r⟩ => ⟨vs, hh _ e, r⟩
theorem CellAt.there {ρ : List Addr} {F : Frz} {h : Heap} {a : Addr} : ∀ {c : Cell}, CellAt ρ F h a c → ∃ o, h.get? a = some o
  | .list _, ⟨_, _, e, _⟩ => ⟨_, e⟩
  | .dict _, ⟨_, _, e, _⟩ => ⟨_, e⟩
  | .cell none, ⟨_, e, _⟩ => ⟨_, e⟩
  | .cell (some _), ⟨_, _, e, _⟩ => ⟨_, e⟩
  | .inst _ _, ⟨_, e, _⟩ => ⟨_, e⟩
  | .fn _ _ _ _ _ _ _, ⟨_, _, _, _, _, e, _⟩ => ⟨_, e⟩
  | .code _, ⟨_, _, _, e, _⟩ => ⟨_, e⟩
  | .obj _, e => ⟨_, e⟩
  | .tab _, ⟨_, e, _⟩ => ⟨_, e⟩

structure Pg where
  prog : Program
  w : World
  h0 : Heap
  ktab : Addr

/-- the store's part of the relation -/
structure SimS (P : Pg) (st : List Cell) (ρ : List Addr) (F : Frz) (h : Heap) : Prop where
  fin : ∀ a o, F a = some o → h.get? a = some o
  gnd : ∀ a o, P.h0.get? a = some o → F a = some o
  nod : ρ.Nodup
  off : ∀ a ∈ ρ, F a = none
  len : ρ.length = st.length
  tb : ρ[0]? = some P.ktab
  cells : ∀ (i : Nat) (c : Cell), st[i]? = some c → ∃ a, ρ[i]? = some a ∧ CellAt ρ F h a c

theorem SimS.at {P : Pg} {st : List Cell} {ρ : List Addr} {F : Frz} {h : Heap} (S : SimS P st ρ F h) {i : Nat} {a : Addr} (e : ρ[i]? = some a) : ∃ c, st[i]? = some c ∧ CellAt ρ F h a c := by
  have hi : i < st.length := by
    rw [← S.len]
    rcases Nat.lt_or_ge i ρ.length with q | q
    · exact q
    · rw [List.getElem?_eq_none q] at e; cases e
  obtain ⟨a', e', c⟩ := S.cells i st[i] (List.getElem?_eq_getElem hi)
  rw [e] at e'; cases e'
  exact ⟨_, List.getElem?_eq_getElem hi, c⟩
theorem SimS.live {P : Pg} {st : List Cell} {ρ : List Addr} {F : Frz} {h : Heap} (S : SimS P st ρ F h) {a : Addr} (e : a ∈ ρ) : ∃ o, h.get? a = some o := by
  obtain ⟨i, hi, rfl⟩ := List.getElem_of_mem e
  obtain ⟨c, _, k⟩ := S.at (List.getElem?_eq_getElem hi)
  exact k.there

/-- a step that keeps all that is known -/
theorem SimS.keep {P : Pg} {st : List Cell} {ρ : List Addr} {F : Frz} {h h' : Heap} (S : SimS P st ρ F h) (hk : ∀ a o, h.get? a = some o → (a ∈ ρ ∨ (F a).isSome = true) → h'.get? a = some o) : SimS P st ρ F h' :=
  ⟨fun a o e => hk a o (S.fin a o e) (.inr (by rw [e]; rfl)), S.gnd, S.nod, S.off, S.len, S.tb, fun i c e => by
    obtain ⟨a, e1, k⟩ := S.cells i c e
    exact ⟨a, e1, k.mono (List.prefix_refl _) (FLe.refl _) fun o q => hk a o q (.inl (List.mem_of_getElem? e1))⟩⟩

noncomputable def addF (F : Frz) (a : Addr) (o : Obj) : Frz := fun b => if b = a then some o else F b
theorem addF_le {F : Frz} {a : Addr} {o : Obj} (h : F a = none) : FLe F (addF F a o) := fun b o' e => by
  unfold addF; split
  · rename_i q; subst q; rw [h] at e; cases e
  · exact e
theorem addF_self {F : Frz} {a : Addr} {o : Obj} : addF F a o a = some o := if_pos rfl

theorem SimS.fresh {P : Pg} {st : List Cell} {ρ : List Addr} {F : Frz} {h : Heap} (S : SimS P st ρ F h) {a : Addr} (ha : h.get? a = none) : F a = none ∧ a ∉ ρ := by
  refine ⟨?_, fun q => ?_⟩
  · cases e : F a with
    | none => rfl
    | some o => rw [S.fin a o e] at ha; cases ha
  · obtain ⟨o, e⟩ := S.live q; rw [e] at ha; cases ha

/-- a frozen object is made -/
theorem SimS.addFrozen {P : Pg} {st : List Cell} {ρ : List Addr} {F : Frz} {h h' : Heap} {a : Addr} {o : Obj} (S : SimS P st ρ F h) (ha : h.get? a = none) (ho : h'.get? a = some o) (hk : ∀ b q, h.get? b = some q → h'.get? b = some q) :
    SimS P st ρ (addF F a o) h' := by
  obtain ⟨hF, hr⟩ := S.fresh ha
  have le := addF_le (o := o) hF
  refine ⟨fun b q e => ?_, fun b q e => le b q (S.gnd b q e), S.nod, fun b hb => ?_, S.len, S.tb, fun i c e => ?_⟩
  · unfold addF at e; split at e
    · rename_i z; subst z; cases e; exact ho
    · exact hk b q (S.fin b q e)
  · unfold addF; split
    · rename_i z; subst z; exact absurd hb hr
    · exact S.off b hb
  · obtain ⟨b, e1, k⟩ := S.cells i c e
    exact ⟨b, e1, k.mono (List.prefix_refl _) le fun q z => hk b q z⟩

/-- a cell is made -/
theorem SimS.addCell {P : Pg} {st : List Cell} {ρ : List Addr} {F : Frz} {h h' : Heap} {a : Addr} {c : Cell} (S : SimS P st ρ F h) (ha : h.get? a = none) (hc : CellAt (ρ ++ [a]) F h' a c) (hk : ∀ b q, h.get? b = some q → h'.get? b = some q) :
    SimS P (st ++ [c]) (ρ ++ [a]) F h' := by
  obtain ⟨hF, hr⟩ := S.fresh ha
  have pre : ρ <+: ρ ++ [a] := List.prefix_append _ _
  refine ⟨fun b q e => hk b q (S.fin b q e), S.gnd, ?_, fun b hb => ?_, by simp [S.len], pre_get pre S.tb, fun i c' e => ?_⟩
  · rw [List.nodup_append]
    refine ⟨S.nod, by simp, ?_⟩
    intro x hx y hy
    rw [List.mem_singleton] at hy
    subst hy; intro q; subst q; exact hr hx
  · rcases List.mem_append.mp hb with q | q
    · exact S.off b q
    · rw [List.mem_singleton.mp q]; exact hF
  · by_cases hi : i < st.length
    · rw [List.getElem?_append_left hi] at e
      obtain ⟨b, e1, k⟩ := S.cells i c' e
      exact ⟨b, pre_get pre e1, k.mono pre (FLe.refl _) fun q z => hk b q z⟩
    · rw [List.getElem?_append_right (by omega)] at e
      have hi' : i = st.length := by
        rcases Nat.lt_or_ge (i - st.length) 1 with q | q
        · omega
        · rw [List.getElem?_eq_none (by simpa using q)] at e; cases e
      subst hi'
      simp only [Nat.sub_self, List.getElem?_cons_zero, Option.some.injEq] at e
      subst e
      refine ⟨a, ?_, hc⟩
      rw [List.getElem?_append_right (by rw [S.len]; exact Nat.le_refl _), S.len, Nat.sub_self]; rfl

/-- a cell is turned -/
theorem SimS.setCell {P : Pg} {st : List Cell} {ρ : List Addr} {F : Frz} {h h' : Heap} {i : Nat} {a : Addr} {c : Cell} (S : SimS P st ρ F h) (hi : ρ[i]? = some a) (hc : CellAt ρ F h' a c) (hk : ∀ b q, b ≠ a → h.get? b = some q → h'.get? b = some q) :
    SimS P (st.set i c) ρ F h' := by
  refine ⟨fun b q e => hk b q (fun z => ?_) (S.fin b q e), S.gnd, S.nod, S.off, by simp [S.len], S.tb, fun j c' e => ?_⟩
  · rw [z, S.off a (List.mem_of_getElem? hi)] at e; cases e
  · by_cases q : i = j
    · subst q
      have hj : i < st.length := by
        rw [← S.len]
        rcases Nat.lt_or_ge i ρ.length with q | q
        · exact q
        · rw [List.getElem?_eq_none q] at hi; cases hi
      rw [List.getElem?_set_self hj] at e
      cases e; exact ⟨a, hi, hc⟩
    · rw [List.getElem?_set_ne q] at e
      obtain ⟨b, e1, k⟩ := S.cells j c' e
      refine ⟨b, e1, k.mono (List.prefix_refl _) (FLe.refl _) fun o z => hk b o (fun y => ?_) z⟩
      subst y
      exact q ((List.getElem?_inj (by
        rcases Nat.lt_or_ge i ρ.length with q | q
        · exact q
        · rw [List.getElem?_eq_none q] at hi; cases hi) S.nod).mp (hi.trans e1.symm))
end Mine
end
section
open PySem PySem.W PySem.Calls PyProof.Rows
set_option Elab.async false
set_option autoImplicit false
set_option linter.all false
set_option maxRecDepth 100000
namespace Mine

noncomputable def NoE : Value → Shared → Prop := fun _ _ => False

structure Tabs where
  glob : List (Str × Value)
  miss : List Str
  fns : List (Addr × FuncData)
  kcode : Addr := 734

/-- the names that instances bear -/
noncomputable def attrNames : List Str := ["number", "code", "pc", "frame", "path", "calls", "scopes", "parent", "children", "done", "wait", "stamp", "looking", "again", "out", "queue", "events", "monitors", "lent", "back", "context", "close_context", "add", "set_monitor", "store", "get"]
noncomputable def thr : Addr := 686
structure ClsOK (K : Frag) : Prop where
  makes : makesIn K thr = true
  init : findIn K (.ref thr) "__init__" = some (some (.ref 683))
  initf : typeIn K (.ref 683) = some (.type "function")
  seta : findIn K (.ref thr) "__setattr__" = some (some (.builtin "object.__setattr__"))
  over : plainOver K thr = true
  pget : plainGet K thr "" = true
  hasd : hasDictIn K thr = true
  keeper : keepIn K (.ref thr) = true
  attr : ∀ n ∈ attrNames, findIn K (.ref thr) n = some none
/-- what is known of the ground heap -/
structure Gd (P : Pg) (T : Tabs) : Prop where
  glob : ∃ mg, P.h0.Ns mainGlobals mg ∧ (∀ q ∈ T.glob, mg q.1 = some q.2) ∧ ∀ x ∈ T.miss, mg x = none
  blt : ∃ mb, P.h0.Ns builtinsNs mb ∧ ∀ x : Str, x ≠ "__name__" → mb x = bootBuiltins x
  nolim : P.h0.NoLimit
  cls : ∃ K : Frag, K.In P.h0 ∧ ClsOK K
  nest : CodeHd P.h0 T.kcode P.ktab ∧ ∃ mg, P.h0.Ns mainGlobals mg ∧ P.h0.BuiltinsAt mg P.ktab ∧ mainGlobals ≠ P.ktab
  fns : ∀ q ∈ T.fns, ∃ o, P.h0.get? q.1 = some o ∧ o.data = .func q.2 ∧ P.h0.CodeRec q.2.code q.2.qualname

structure Cx where
  P : Pg
  T : Tabs
  A : Around
  env : Env
  keys : List Str
  gkeys : List Str
  lv : Nat
  ckeys : List (Str × Nat) := []

structure GoodCx (C : Cx) : Prop where
  gd : Gd C.P C.T
  hd : C.A.handled = none
  room : C.A.depth + C.lv < recursionLimit
  units : C.A.units + 20 * C.lv < cLine
  kind : C.env.scope.kind = .function
  locs : ∀ x ∈ C.keys, C.env.kindOf x = some .local
  globs : ∀ x ∈ C.gkeys, C.env.kindOf x = some .globalImplicit
  nd : C.keys.Nodup
  cks : ∀ q ∈ C.ckeys, C.env.kindOf q.1 = some .cell ∨ C.env.kindOf q.1 = some .free
  glb : C.env.globals = mainGlobals
  blt : C.env.builtins = builtinsNs

noncomputable def LocAt (ρ : List Addr) (F : Frz) (mv : Option Value) : Option (Option PV) → Prop
  | some (some p) => ∃ v, mv = some v ∧ Rep ρ F v p
  | _ => True
theorem LocAt.mono {ρ ρ' : List Addr} {F F' : Frz} (hρ : ρ <+: ρ') (hF : FLe F F') {mv : Option Value} : ∀ {x : Option (Option PV)}, LocAt ρ F mv x → LocAt ρ' F' mv x
  | some (some _), ⟨v, e, r⟩ => ⟨v, e, r.mono hρ hF⟩
  | some none, _ => trivial
  | none, _ => trivial

structure Sim (C : Cx) (lo : List (Option PV)) (st : List Cell) (ρ : List Addr) (F : Frz) (h : Heap) : Prop where
  good : GoodCx C
  s : SimS C.P st ρ F h
  L1 : F C.env.locals = none
  L2 : C.env.locals ∉ ρ
  len : lo.length = C.keys.length
  cel : ∀ q ∈ C.ckeys, ∃ a, C.env.cells.lookup q.1 = some a ∧ ρ[q.2]? = some a
  ns : ∃ m, h.Ns C.env.locals m ∧ ∀ (i : Nat) (x : Str), C.keys[i]? = some x → LocAt ρ F (m x) lo[i]?

noncomputable abbrev Rest (s : Shared) (h : Heap) (tk : Nat) : Shared := { s with heap := h, toks := tk }

/-- e evaluates to r, the store turns from st to st' -/
structure Ev (C : Cx) (lo : List (Option PV)) (st : List Cell) (e : Expr) (r : PV) (st' : List Cell) : Prop where
  run :
  ∀ (s : Shared) (ρ : List Addr) (F : Frz), Sim C lo st ρ F s.heap → ∀ Q : Value → Shared → Prop,
    (∀ v h' tk ρ' F', Rep ρ' F' v r → Sim C lo st' ρ' F' h' → ρ <+: ρ' → FLe F F' → Q v (Rest s h' tk)) →
    wpAny (model C.P.prog C.P.w) C.A (eval e C.env) Q NoE s

/-- a list of expressions, as arguments or elements -/
structure Evs (C : Cx) (lo : List (Option PV)) (st : List Cell) (es : List Expr) (rs : List PV) (st' : List Cell) : Prop where
  run :
  ∀ (pos : Pos) (s : Shared) (ρ : List Addr) (F : Frz), Sim C lo st ρ F s.heap → ∀ Q : List Value → Shared → Prop,
    (∀ vs h' tk ρ' F', Reps ρ' F' vs rs → Sim C lo st' ρ' F' h' → ρ <+: ρ' → FLe F F' → Q vs (Rest s h' tk)) →
    wpAny (model C.P.prog C.P.w) C.A (spliced (backTo pos (starEach es C.env))) Q NoE s

/-- a test -/
structure Tst (C : Cx) (lo : List (Option PV)) (st : List Cell) (e : Expr) (b : Bool) (st' : List Cell) : Prop where
  run :
  ∀ (s : Shared) (ρ : List Addr) (F : Frz), Sim C lo st ρ F s.heap → ∀ Q : Bool → Shared → Prop,
    (∀ h' tk ρ' F', Sim C lo st' ρ' F' h' → ρ <+: ρ' → FLe F F' → Q b (Rest s h' tk)) →
    wpAny (model C.P.prog C.P.w) C.A (isTrue e C.env (eval e C.env)) Q NoE s

inductive Out where
  | next (lo : List (Option PV)) (st : List Cell)
  | brk (lo : List (Option PV)) (st : List Cell)
  | cont (lo : List (Option PV)) (st : List Cell)
  | ret (r : PV) (st : List Cell)

noncomputable def OutSim (C : Cx) (ρ : List Addr) (F : Frz) (h : Heap) (f : Flow) : Out → Prop
  | .next lo st => f = .next ∧ Sim C lo st ρ F h
  | .brk lo st => f = .brk ∧ Sim C lo st ρ F h
  | .cont lo st => f = .cont ∧ Sim C lo st ρ F h
  | .ret r st => ∃ v, f = .ret v ∧ Rep ρ F v r ∧ SimS C.P st ρ F h ∧ F C.env.locals = none

/-- the statements end in an outcome that K admits -/
structure Ex (C : Cx) (lo : List (Option PV)) (st : List Cell) (b : List Stmt) (K : Out → Prop) : Prop where
  run :
  ∀ (s : Shared) (ρ : List Addr) (F : Frz), Sim C lo st ρ F s.heap → ∀ Q : Flow → Shared → Prop,
    (∀ o, K o → ∀ f h' tk ρ' F', OutSim C ρ' F' h' f o → ρ <+: ρ' → FLe F F' → Q f (Rest s h' tk)) →
    wpAny (model C.P.prog C.P.w) C.A (execs b C.env) Q NoE s
noncomputable def Ex1 (C : Cx) (lo : List (Option PV)) (st : List Cell) (b : Stmt) (K : Out → Prop) : Prop :=
  ∀ (s : Shared) (ρ : List Addr) (F : Frz), Sim C lo st ρ F s.heap → ∀ Q : Flow → Shared → Prop,
    (∀ o, K o → ∀ f h' tk ρ' F', OutSim C ρ' F' h' f o → ρ <+: ρ' → FLe F F' → Q f (Rest s h' tk)) →
    wpAny (model C.P.prog C.P.w) C.A (exec b C.env) Q NoE s

/-- a call -/
noncomputable def Cl (P : Pg) (T : Tabs) (lv : Nat) (f : Value) (vs : List PV) (st : List Cell) (r : PV) (st' : List Cell) : Prop :=
  ∀ (A : Around) (s : Shared) (ρ : List Addr) (F : Frz) (rs : List Value), Gd P T → A.handled = none → A.depth + lv < recursionLimit → A.units + 20 * lv < cLine →
    SimS P st ρ F s.heap → Reps ρ F rs vs → ∀ Q : Value → Shared → Prop,
    (∀ v h' tk ρ' F', Rep ρ' F' v r → SimS P st' ρ' F' h' → ρ <+: ρ' → FLe F F' → Q v (Rest s h' tk)) →
    wpAny (model P.prog P.w) A (call f rs) Q NoE s

section
variable {C : Cx} {lo : List (Option PV)} {st st1 st2 st3 : List Cell} {pos : Pos} {a b c r : PV}

theorem ev_int {i : Int} {k : Nat} : Ev C lo st (.Constant (.int i) k pos) (.int i) st :=
  .mk fun s ρ F S Q hQ => wpAny_Constant_int (hQ _ _ _ _ _ (.int _ _) S (List.prefix_refl _) (FLe.refl _))
theorem ev_str {x : Str} {k : Nat} : Ev C lo st (.Constant (.str x) k pos) (.str x) st :=
  .mk fun s ρ F S Q hQ => wpAny_Constant_str (hQ _ _ _ _ _ (.str _ _) S (List.prefix_refl _) (FLe.refl _))
theorem ev_none {k : Nat} : Ev C lo st (.Constant .none k pos) .none st :=
  .mk fun s ρ F S Q hQ => wpAny_Constant_none (hQ _ s.heap s.toks _ _ .none S (List.prefix_refl _) (FLe.refl _))
theorem ev_bool {x : Bool} {k : Nat} : Ev C lo st (.Constant (.bool x) k pos) (.bool x) st :=
  .mk fun s ρ F S Q hQ => wpAny_Constant_bool (hQ _ s.heap s.toks _ _ (.bool _) S (List.prefix_refl _) (FLe.refl _))

theorem keys_lt {x : Str} {i : Nat} (h : C.keys[i]? = some x) : x ∈ C.keys := List.mem_of_getElem? h

theorem Sim.load {ρ : List Addr} {F : Frz} {h : Heap} (S : Sim C lo st ρ F h) {i : Nat} {x : Str} (hx : C.keys[i]? = some x) (hp : lo[i]? = some (some a)) :
    ∃ m v, h.Ns C.env.locals m ∧ m x = some v ∧ Rep ρ F v a := by
  obtain ⟨m, hn, hm⟩ := S.ns
  have := hm i x hx
  rw [hp] at this
  obtain ⟨v, e, q⟩ := this
  exact ⟨m, v, hn, e, q⟩

theorem ev_name {x : Str} (i : Nat) (hx : C.keys[i]? = some x := by rfl) (hp : lo[i]? = some (some a) := by rfl) (hd : (x == ("__debug__" : Str)) = false := by decide) : Ev C lo st (.Name x pos) a st := by
  refine .mk fun s ρ F S Q hQ => ?_
  obtain ⟨m, v, hn, e, q⟩ := S.load hx hp
  exact wpAny_Name (wpAny_loadName_local S.good.kind (S.good.locs x (keys_lt hx)) hn e (hQ v s.heap s.toks _ _ q S (List.prefix_refl _) (FLe.refl _))) hd

theorem Ev.mono {e : Expr} (he : Ev C lo st e r st1) : Ev C lo st e r st1 := he

noncomputable def BinS (P : Pg) (T : Tabs) (op : Operator) (a b c : PV) : Prop :=
  ∀ (A : Around) (s : Shared) (ρ : List Addr) (F : Frz) (v u : Value), A.handled = none → Gd P T → (∀ x o, P.h0.get? x = some o → s.heap.get? x = some o) → Rep ρ F v a → Rep ρ F u b → ∀ Q : Value → Shared → Prop,
    (∀ z tk, Rep ρ F z c → Q z { s with toks := tk }) → wpAny (model P.prog P.w) A (binaryOp op v u) Q NoE s
noncomputable def CmpS (P : Pg) (T : Tabs) (op : CmpOp) (a b : PV) (c : Bool) : Prop :=
  ∀ (A : Around) (s : Shared) (ρ : List Addr) (F : Frz) (v u : Value), A.handled = none → Rep ρ F v a → Rep ρ F u b → (∀ x o, F x = some o → s.heap.get? x = some o) → ∀ Q : Value → Shared → Prop,
    (∀ tk, Q (.bool c) { s with toks := tk }) → wpAny (model P.prog P.w) A (compareOp op v u) Q NoE s

theorem ev_bin {op : Operator} {l q : Expr} (hl : Ev C lo st l a st1) (hr : Ev C lo st1 q b st2) (ho : BinS C.P C.T op a b c) : Ev C lo st (.BinOp l op q pos) c st2 := by
  refine .mk fun s ρ F S Q hQ => ?_
  refine wpAny_BinOp (hl.run s ρ F S _ fun v h1 t1 ρ1 F1 r1 S1 p1 f1 => hr.run _ ρ1 F1 S1 _ fun u h2 t2 ρ2 F2 r2 S2 p2 f2 => ?_)
  exact ho _ _ ρ2 F2 v u S.good.hd S.good.gd (fun x o e => S2.s.fin x o (S2.s.gnd x o e)) (r1.mono p2 f2) r2 _ fun z tk q => hQ z h2 tk ρ2 F2 q S2 (p1.trans p2) (f1.trans f2)
theorem ev_cmp {op : CmpOp} {l q : Expr} {x : Bool} (hl : Ev C lo st l a st1) (hr : Ev C lo st1 q b st2) (ho : CmpS C.P C.T op a b x) (hm : behindInMarks op q = false := by with_unfolding_all rfl) : Ev C lo st (.Compare l [op] [q] pos) (.bool x) st2 := by
  refine .mk fun s ρ F S Q hQ => ?_
  refine wpAny_Compare1 (hl.run s ρ F S _ fun v h1 t1 ρ1 F1 r1 S1 p1 f1 => hr.run _ ρ1 F1 S1 _ fun u h2 t2 ρ2 F2 r2 S2 p2 f2 => ?_) hm
  exact ho _ _ ρ2 F2 v u S.good.hd (r1.mono p2 f2) r2 S2.s.fin _ fun tk => hQ _ h2 tk ρ2 F2 (.bool _) S2 (p1.trans p2) (f1.trans f2)
theorem tst_cmp {op : CmpOp} {l q : Expr} {x : Bool} (hl : Ev C lo st l a st1) (hr : Ev C lo st1 q b st2) (ho : CmpS C.P C.T op a b x) (hm : behindInMarks op q = false := by with_unfolding_all rfl) : Tst C lo st (.Compare l [op] [q] pos) x st2 := by
  refine .mk fun s ρ F S Q hQ => ?_
  refine wpAny_isTrue_Compare1 (hl.run s ρ F S _ fun v h1 t1 ρ1 F1 r1 S1 p1 f1 => hr.run _ ρ1 F1 S1 _ fun u h2 t2 ρ2 F2 r2 S2 p2 f2 => ?_) hm
  exact ho _ _ ρ2 F2 v u S.good.hd (r1.mono p2 f2) r2 S2.s.fin _ fun tk => wpAny_truthy_bool (hQ h2 tk ρ2 F2 S2 (p1.trans p2) (f1.trans f2))

section
variable {P : Pg} {T : Tabs} {x y : Int}
end
end
end Mine
end
section
open PySem PySem.W PySem.Calls PyProof.Rows
set_option Elab.async false
set_option autoImplicit false
set_option linter.all false
set_option maxRecDepth 100000
namespace Mine
section
variable {P : Pg} {T : Tabs} {x y : Int} {s t : Str} {b c : Bool} {a p : PV}

theorem b_add : BinS P T .Add (.int x) (.int y) (.int (x + y)) := by
  intro A s ρ F v u hA G hk hv hu Q hQ; cases hv; cases hu; exact PyProof.Rows.add_int (hQ _ _ (.int _ _))
theorem b_sub : BinS P T .Sub (.int x) (.int y) (.int (x - y)) := by
  intro A s ρ F v u hA G hk hv hu Q hQ; cases hv; cases hu; exact PyProof.Rows.sub_int' (hQ _ _ (.int _ _))
theorem bits_small {x : Int} (h : x.natAbs < 2 ^ 64) : Builtin.Int.intBits x ≤ 64 := PySem.intBits_le_64 (by omega) (by omega)
theorem b_mul (h : x.natAbs < 2 ^ 64 ∨ y.natAbs < 2 ^ 64) : BinS P T .Mult (.int x) (.int y) (.int (x * y)) := by
  intro A s ρ F v u hA G hk hv hu Q hQ; cases hv; cases hu
  exact PyProof.Rows.mul_int (hQ _ _ (.int _ _)) (h.elim (fun q => .of_left (bits_small q)) fun q => .of_right (bits_small q))
theorem b_fdiv (hy : y ≠ 0) (h : y.natAbs < 1073741824) : BinS P T .FloorDiv (.int x) (.int y) (.int (x.fdiv y)) := by
  intro A s ρ F v u hA G hk hv hu Q hQ; cases hv; cases hu
  exact PyProof.Rows.floordiv_int hy (hQ _ _ (.int _ _)) (.inl (PyProof.noPylong_small h))
theorem b_fmod (hy : y ≠ 0) (h : y.natAbs < 1073741824) : BinS P T .Mod (.int x) (.int y) (.int (x.fmod y)) := by
  intro A s ρ F v u hA G hk hv hu Q hQ; cases hv; cases hu
  exact PyProof.Rows.mod_int' hy (hQ _ _ (.int _ _))
theorem b_shl (hy : 0 ≤ y) (hy2 : y ≤ 1000000) (hx : x.natAbs < 2 ^ 64) : BinS P T .LShift (.int x) (.int y) (.int (x * 2 ^ y.toNat)) := by
  intro A s ρ F v u hA G hk hv hu Q hQ; cases hv; cases hu
  exact PyProof.Rows.lshift_int_small hy hy2 hx (hQ _ _ (.int _ _))
theorem b_shr (hy : 0 ≤ y) : BinS P T .RShift (.int x) (.int y) (.int (x.fdiv (2 ^ y.toNat))) := by
  intro A s ρ F v u hA G hk hv hu Q hQ; cases hv; cases hu
  exact PyProof.Rows.rshift_int hy (hQ _ _ (.int _ _))
theorem b_and : BinS P T .BitAnd (.int x) (.int y) (.int (Builtin.bitAnd x y)) := by
  intro A s ρ F v u hA G hk hv hu Q hQ; cases hv; cases hu; exact PyProof.Rows.and_int (hQ _ _ (.int _ _))
theorem b_or : BinS P T .BitOr (.int x) (.int y) (.int (Builtin.bitOr x y)) := by
  intro A s ρ F v u hA G hk hv hu Q hQ; cases hv; cases hu; exact PyProof.Rows.or_int (hQ _ _ (.int _ _))
theorem b_xor : BinS P T .BitXor (.int x) (.int y) (.int (Builtin.bitXor x y)) := by
  intro A s ρ F v u hA G hk hv hu Q hQ; cases hv; cases hu; exact PyProof.Rows.xor_int (hQ _ _ (.int _ _))
theorem b_pow (hy : 0 ≤ y) (hsz : (Builtin.Int.intBits x : Int) * y ≤ 2 ^ 27) : BinS P T .Pow (.int x) (.int y) (.int (x ^ y.toNat)) := by
  intro A s ρ F v u hA G hk hv hu Q hQ; cases hv; cases hu; exact PyProof.Rows.pow_int hy hsz (hQ _ _ (.int _ _))
theorem b_cat (h : s.length + t.length ≤ sizeLine) : BinS P T .Add (.str s) (.str t) (.str (s ++ t)) := by
  intro A s ρ F v u hA G hk hv hu Q hQ; cases hv; cases hu; exact PyProof.Rows.add_str (fun t' tk => hQ _ _ (.str _ _)) h
theorem b_rep (h : MulOk s x) : BinS P T .Mult (.str s) (.int x) (.str (Txt.mul s x)) := by
  intro A s ρ F v u hA G hk hv hu Q hQ; cases hv; cases hu; exact SB.mul h (fun t' tk => hQ _ _ (.str _ _))

theorem c_eq : CmpS P T .Eq (.int x) (.int y) (x == y) := by
  intro A s ρ F v u hA hv hu hF Q hQ; cases hv; cases hu; exact PyProof.Rows.eq_int (hQ _)
theorem c_ne : CmpS P T .NotEq (.int x) (.int y) (x != y) := by
  intro A s ρ F v u hA hv hu hF Q hQ; cases hv; cases hu; exact PyProof.Rows.ne_int (hQ _)
theorem c_lt : CmpS P T .Lt (.int x) (.int y) (decide (x < y)) := by
  intro A s ρ F v u hA hv hu hF Q hQ; cases hv; cases hu; exact PyProof.Rows.lt_int (hQ _)
theorem c_le : CmpS P T .LtE (.int x) (.int y) (decide (x ≤ y)) := by
  intro A s ρ F v u hA hv hu hF Q hQ; cases hv; cases hu; exact PyProof.Rows.le_int (hQ _)
theorem c_gt : CmpS P T .Gt (.int x) (.int y) (decide (y < x)) := by
  intro A s ρ F v u hA hv hu hF Q hQ; cases hv; cases hu; exact PyProof.Rows.gt_int (hQ _)
theorem c_ge : CmpS P T .GtE (.int x) (.int y) (decide (y ≤ x)) := by
  intro A s ρ F v u hA hv hu hF Q hQ; cases hv; cases hu; exact PyProof.Rows.ge_int (hQ _)
theorem c_eqs : CmpS P T .Eq (.str s) (.str t) (s == t) := by
  intro A s ρ F v u hA hv hu hF Q hQ; cases hv; cases hu; exact PyProof.Rows.eq_str (hQ _)
theorem c_nes : CmpS P T .NotEq (.str s) (.str t) (s != t) := by
  intro A s ρ F v u hA hv hu hF Q hQ; cases hv; cases hu; exact PyProof.Rows.ne_str (hQ _)
theorem c_les : CmpS P T .LtE (.str s) (.str t) (!(decide (t.cps.toList < s.cps.toList))) := by
  intro A s ρ F v u hA hv hu hF Q hQ; cases hv; cases hu; exact PySem.P.le_str (hQ _)
theorem c_ins : CmpS P T .In (.str s) (.str t) (Txt.contains t s) := by
  intro A s ρ F v u hA hv hu hF Q hQ; cases hv; cases hu; exact SB.contains (hQ _)
theorem c_neb : CmpS P T .NotEq (.bool b) (.bool c) (b != c) := by
  intro A s ρ F v u hA hv hu hF Q hQ; cases hv; cases hu; exact PyProof.Rows.ne_bool (hQ _)
noncomputable def isNone : PV → Bool
  | .none => true
  | .val _ => false
  | _ => false
theorem c_isnone (h : ∀ v, a ≠ .val v) : CmpS P T .Is a .none (isNone a) := by
  intro A s ρ F v u hA hv hu hF Q hQ; cases hu
  refine is_none ?_
  have e : (v == Value.none) = isNone a := by cases hv <;> first | rfl | (exact absurd rfl (h _))
  rw [e]; exact hQ _
theorem c_isnot (h : ∀ v, a ≠ .val v) : CmpS P T .IsNot a .none (!isNone a) := by
  intro A s ρ F v u hA hv hu hF Q hQ; cases hu
  refine isNot_none ?_
  have e : (v == Value.none) = isNone a := by cases hv <;> first | rfl | (exact absurd rfl (h _))
  rw [e]; exact hQ _
end
end Mine
end
section
open PySem PySem.W PySem.Calls PyProof.Rows
set_option Elab.async false
set_option autoImplicit false
set_option linter.all false
set_option maxRecDepth 100000
namespace Mine

noncomputable def delF (F : Frz) (a : Addr) : Frz := fun b => if b = a then none else F b
noncomputable def NotData (o : Obj) : Prop := (∀ vs, o ≠ tupObj vs) ∧ ∀ C d, o ≠ instObj C d
theorem delF_le {F G : Frz} {a : Addr} (h : F a = none) (g : FLe F G) : FLe F (delF G a) := fun b o e => by
  unfold delF; split
  · rename_i q; subst q; rw [h] at e; cases e
  · exact g b o e
mutual
theorem Rep.thaw {ρ : List Addr} {F : Frz} {a : Addr} {o : Obj} (ha : F a = some o) (ho : NotData o) : ∀ {v : Value} {p : PV}, Rep ρ F v p → Rep ρ (delF F a) v p
  | _, _, .none => .none
  | _, _, .bool b => .bool b
  | _, _, .int i t => .int i t
  | _, _, .str x t => .str x t
  | _, _, .tup (a := b) h r => .tup (by
      unfold delF; split
      · rename_i q; subst q; rw [ha] at h; cases h; exact absurd rfl (ho.1 _)
      · exact h) (Reps.thaw ha ho r)
  | _, _, .loc h => .loc h
  | _, _, .obj (a := b) h q => .obj (by
      unfold delF; split
      · rename_i q; subst q; rw [ha] at h; cases h; exact absurd rfl (ho.2 _ _)
      · exact h) q
  | _, _, .val v => .val v
theorem Reps.thaw {ρ : List Addr} {F : Frz} {a : Addr} {o : Obj} (ha : F a = some o) (ho : NotData o) : ∀ {vs : List Value} {l : List PV}, Reps ρ F vs l → Reps ρ (delF F a) vs l
  | _, _, .nil => .nil
  | _, _, .cons h r => .cons (Rep.thaw ha ho h) (Reps.thaw ha ho r)
end
theorem DictRep.thaw {ρ : List Addr} {F : Frz} {a : Addr} {o : Obj} (ha : F a = some o) (ho : NotData o) : ∀ {es : List DictEntry} {xs : List (Str × PV)}, DictRep ρ F es xs → DictRep ρ (delF F a) es xs
  | [], [], _ => trivial
  | _ :: _, _ :: _, ⟨x, b, c⟩ => ⟨x, b.thaw ha ho, DictRep.thaw ha ho c⟩
  | [], _ :: _, h => h.elim
  | _ :: _, [], h => h.elim
theorem CellAt.thaw {ρ : List Addr} {F : Frz} {h : Heap} {b a : Addr} {o : Obj} (ha : F a = some o) (ho : NotData o) : ∀ {c : Cell}, CellAt ρ F h b c → CellAt ρ (delF F a) h b c
  | .list _, ⟨vs, n, e, r, z⟩ => ⟨vs, n, e, r.thaw ha ho, z⟩
  | .dict _, ⟨ds, n, e, r, z⟩ => ⟨ds, n, e, r.thaw ha ho, z⟩
  | .cell none, ⟨o, e, d⟩ => ⟨o, e, d⟩
  | .cell (some _), ⟨o, v, e, d, r⟩ => ⟨o, v, e, d, r.thaw ha ho⟩
  | .inst _ _, ⟨d, e, r⟩ => ⟨d, e, r⟩
  | .fn _ _ _ _ _ _ _, h => h
  | .code _, h => h
  | .tab _, h => h
  | .obj _, h => h
theorem SimS.thaw {P : Pg} {st : List Cell} {ρ : List Addr} {F : Frz} {h : Heap} {a : Addr} {o : Obj} (S : SimS P st ρ F h) (ha : F a = some o) (ho : NotData o) (hg : P.h0.get? a = none) : SimS P st ρ (delF F a) h := by
  refine ⟨fun b q e => S.fin b q (by unfold delF at e; split at e; cases e; exact e), fun b q e => ?_, S.nod, fun b hb => ?_, S.len, S.tb, fun i c e => ?_⟩
  · unfold delF; split
    · rename_i z; subst z; rw [hg] at e; cases e
    · exact S.gnd b q e
  · unfold delF; split
    · rfl
    · exact S.off b hb
  · obtain ⟨b, e1, k⟩ := S.cells i c e
    exact ⟨b, e1, k.thaw ha ho⟩
theorem LocAt.thaw {ρ : List Addr} {F : Frz} {a : Addr} {o : Obj} (ha : F a = some o) (ho : NotData o) {mv : Option Value} : ∀ {x : Option (Option PV)}, LocAt ρ F mv x → LocAt ρ (delF F a) mv x
  | some (some _), ⟨v, e, r⟩ => ⟨v, e, r.thaw ha ho⟩
  | some none, _ => trivial
  | none, _ => trivial
theorem Sim.thaw {C : Cx} {lo : List (Option PV)} {st : List Cell} {ρ : List Addr} {F : Frz} {h : Heap} {a : Addr} {o : Obj} (S : Sim C lo st ρ F h) (ha : F a = some o) (ho : NotData o) (hg : C.P.h0.get? a = none) : Sim C lo st ρ (delF F a) h :=
  ⟨S.good, S.s.thaw ha ho hg, by unfold delF; split <;> first | rfl | exact S.L1, S.L2, S.len, S.cel, let ⟨m, hn, hm⟩ := S.ns; ⟨m, hn, fun i x hx => (hm i x hx).thaw ha ho⟩⟩

section
variable {C : Cx} {lo : List (Option PV)} {st st1 st2 st3 : List Cell} {pos : Pos} {a b c r : PV} {K : Out → Prop} {rest : List Stmt}

theorem Sim.keep {ρ : List Addr} {F : Frz} {h h' : Heap} (S : Sim C lo st ρ F h) (hk : ∀ a o, h.get? a = some o → (a ∈ ρ ∨ (F a).isSome = true ∨ a = C.env.locals) → h'.get? a = some o) : Sim C lo st ρ F h' :=
  ⟨S.good, S.s.keep fun a o e q => hk a o e (q.elim .inl fun q => .inr (.inl q)), S.L1, S.L2, S.len, S.cel, let ⟨m, ⟨o, es, ep, e, r⟩, hm⟩ := S.ns; ⟨m, ⟨o, es, ep, hk _ _ e (.inr (.inr rfl)), r⟩, hm⟩⟩
theorem Sim.fresh {ρ : List Addr} {F : Frz} {h : Heap} (S : Sim C lo st ρ F h) {a : Addr} (ha : h.get? a = none) : F a = none ∧ a ∉ ρ ∧ a ≠ C.env.locals := by
  obtain ⟨x, y⟩ := S.s.fresh ha
  refine ⟨x, y, fun q => ?_⟩
  obtain ⟨m, ⟨o, es, ep, e, _⟩, _⟩ := S.ns
  rw [← q, ha] at e; cases e
theorem Sim.addFrozen {ρ : List Addr} {F : Frz} {h h' : Heap} {a : Addr} {o : Obj} (S : Sim C lo st ρ F h) (ha : h.get? a = none) (ho : h'.get? a = some o) (hk : ∀ b q, h.get? b = some q → h'.get? b = some q) :
    Sim C lo st ρ (addF F a o) h' := by
  obtain ⟨f1, f2, f3⟩ := S.fresh ha
  refine ⟨S.good, S.s.addFrozen ha ho hk, ?_, S.L2, S.len, S.cel, ?_⟩
  · unfold addF; rw [if_neg (Ne.symm f3)]; exact S.L1
  · obtain ⟨m, hn, hm⟩ := S.ns
    exact ⟨m, hn.keeps hk, fun i x hx => (hm i x hx).mono (List.prefix_refl _) (addF_le f1)⟩
theorem Sim.addCell {ρ : List Addr} {F : Frz} {h h' : Heap} {a : Addr} {c : Cell} (S : Sim C lo st ρ F h) (ha : h.get? a = none) (hc : CellAt (ρ ++ [a]) F h' a c) (hk : ∀ b q, h.get? b = some q → h'.get? b = some q) :
    Sim C lo (st ++ [c]) (ρ ++ [a]) F h' := by
  obtain ⟨f1, f2, f3⟩ := S.fresh ha
  refine ⟨S.good, S.s.addCell ha hc hk, S.L1, ?_, S.len, (fun q hq => let ⟨a, e1, e2⟩ := S.cel q hq; ⟨a, e1, pre_get (List.prefix_append _ _) e2⟩), ?_⟩
  · rw [List.mem_append, List.mem_singleton]; rintro (q | q)
    · exact S.L2 q
    · exact f3 q.symm
  · obtain ⟨m, hn, hm⟩ := S.ns
    exact ⟨m, hn.keeps hk, fun i x hx => (hm i x hx).mono (List.prefix_append _ _) (FLe.refl _)⟩
theorem Sim.setCell {ρ : List Addr} {F : Frz} {h h' : Heap} {i : Nat} {a : Addr} {c : Cell} (S : Sim C lo st ρ F h) (hi : ρ[i]? = some a) (hc : CellAt ρ F h' a c) (hk : ∀ b q, b ≠ a → h.get? b = some q → h'.get? b = some q) :
    Sim C lo (st.set i c) ρ F h' :=
  ⟨S.good, S.s.setCell hi hc hk, S.L1, S.L2, S.len, S.cel, let ⟨m, ⟨o, es, ep, e, r⟩, hm⟩ := S.ns; ⟨m, ⟨o, es, ep, hk _ _ (fun q => S.L2 (q ▸ List.mem_of_getElem? hi)) e, r⟩, hm⟩⟩

theorem Sim.store {ρ : List Addr} {F : Frz} {h h' : Heap} {m : Str → Option Value} (S : Sim C lo st ρ F h) {i : Nat} {x : Str} {v : Value} (hx : C.keys[i]? = some x) (hv : Rep ρ F v a)
    (hm : ∀ (i : Nat) (x : Str), C.keys[i]? = some x → LocAt ρ F (m x) lo[i]?) (hn : h'.Ns C.env.locals (fun y => if y = x then some v else m y)) (hs : Heap.SameBut C.env.locals h h') :
    Sim C (lo.set i (some a)) st ρ F h' := by
  refine ⟨S.good, S.s.keep fun b o e q => (hs.2 b fun z => ?_).trans e, S.L1, S.L2, by rw [List.length_set]; exact S.len, S.cel, _, hn, fun j y hy => ?_⟩
  · subst z
    rcases q with q | q
    · exact S.L2 q
    · rw [S.L1] at q; cases q
  · have hi : i < lo.length := by
      rw [S.len]
      rcases Nat.lt_or_ge i C.keys.length with q | q
      · exact q
      · rw [List.getElem?_eq_none q] at hx; cases hx
    by_cases q : i = j
    · subst q
      rw [hx] at hy; cases hy
      rw [List.getElem?_set_self hi, if_pos rfl]
      exact ⟨v, rfl, hv⟩
    · rw [List.getElem?_set_ne q, if_neg fun z => q ?_]
      · exact hm j y hy
      · subst z
        have hi' : i < C.keys.length := S.len ▸ hi
        exact (List.getElem?_inj hi' S.good.nd).mp (hx.trans hy.symm)

theorem Sim.storeName {A : Around} {s : Shared} {ρ : List Addr} {F : Frz} {E : Value → Shared → Prop} (S : Sim C lo st ρ F s.heap) {i : Nat} {x : Str} {v : Value} (hx : C.keys[i]? = some x) (hv : Rep ρ F v a) {Q : Unit → Shared → Prop}
    (h : ∀ h' tk, Sim C (lo.set i (some a)) st ρ F h' → Q () (Rest s h' tk)) : wpAny (model C.P.prog C.P.w) A (storeName C.env x v) Q E s := by
  obtain ⟨m, hn, hm⟩ := S.ns
  refine wpAny_storeName_local (S.good.locs x (keys_lt hx)) hn (fun h' hn' hs => h h' _ (S.store hx hv hm hn' hs)) ?_
  rw [S.good.kind]; rfl

noncomputable def seqK (C : Cx) (rest : List Stmt) (K : Out → Prop) : Out → Prop
  | .next lo st => Ex C lo st rest K
  | o => K o

theorem ex_nil (h : K (.next lo st)) : Ex C lo st [] K :=
  .mk fun s ρ F S Q hQ => wpAny_execs_nil (hQ _ h _ s.heap s.toks ρ F ⟨rfl, S⟩ (List.prefix_refl _) (FLe.refl _))
theorem ex_cons {b : Stmt} (h : Ex1 C lo st b (seqK C rest K)) : Ex C lo st (b :: rest) K := by
  refine .mk fun s ρ F S Q hQ => ?_
  refine wpAny_execs_cons (h s ρ F S _ fun o ko f h' tk ρ' F' os p g => ?_)
  cases o with
  | next lo' st' => obtain ⟨rfl, S'⟩ := os; exact ko.run _ ρ' F' S' Q fun o ko f h2 tk2 ρ2 F2 os p2 g2 => hQ o ko f h2 tk2 ρ2 F2 os (p.trans p2) (g.trans g2)
  | brk lo' st' => obtain ⟨rfl, S'⟩ := os; exact hQ _ ko _ h' tk ρ' F' ⟨rfl, S'⟩ p g
  | cont lo' st' => obtain ⟨rfl, S'⟩ := os; exact hQ _ ko _ h' tk ρ' F' ⟨rfl, S'⟩ p g
  | ret r st' => obtain ⟨v, rfl, S'⟩ := os; exact hQ _ ko _ h' tk ρ' F' ⟨v, rfl, S'⟩ p g
theorem Ex.mono {b : List Stmt} {K' : Out → Prop} (h : Ex C lo st b K) (hk : ∀ o, K o → K' o) : Ex C lo st b K' :=
  .mk fun s ρ F S Q hQ => h.run s ρ F S Q fun o ko => hQ o (hk o ko)

theorem ex_assign {x : Str} {p' : Pos} {e : Expr} (i : Nat) (he : Ev C lo st e r st1) (k : Ex C (lo.set i (some r)) st1 rest K)
    (hx : C.keys[i]? = some x := by rfl) (hs : swapsWith e (some (.Name x p')) pos.line C.env = pure false := by rfl) : Ex C lo st (.Assign [.Name x p'] e pos :: rest) K := by
  refine ex_cons fun s ρ F S Q hQ => ?_
  refine wpAny_Assign_Name (he.run s ρ F S _ fun v h1 t1 ρ1 F1 r1 S1 p1 f1 => ?_) hs
  exact S1.storeName hx r1 fun h' tk S2 => hQ (.next _ _) k _ h' tk ρ1 F1 ⟨rfl, S2⟩ p1 f1
theorem ex_ret {e : Expr} (he : Ev C lo st e r st1) (k : K (.ret r st1)) : Ex C lo st (.Return (some e) pos :: rest) K := by
  refine ex_cons fun s ρ F S Q hQ => wpAny_Return_some (he.run s ρ F S _ fun v h1 t1 ρ1 F1 r1 S1 p1 f1 => ?_)
  exact hQ (.ret r st1) k _ h1 t1 ρ1 F1 ⟨v, rfl, r1, S1.s, S1.L1⟩ p1 f1
theorem ex_ret_none (k : K (.ret .none st)) : Ex C lo st (.Return none pos :: rest) K := by
  refine ex_cons fun s ρ F S Q hQ => wpAny_Return_none ?_
  exact hQ (.ret .none st) k _ s.heap s.toks ρ F ⟨_, rfl, .none, S.s, S.L1⟩ (List.prefix_refl _) (FLe.refl _)
/-- an expression's statement whose value is no object -/
theorem ex_expr {e : Expr} (he : Ev C lo st e .none st1) (k : Ex C lo st1 rest K) (hi : interactive C.env = false := by rfl) (hs : swapsWith e none pos.line C.env = pure false := by rfl) : Ex C lo st (.Expr e pos :: rest) K := by
  refine ex_cons fun s ρ F S Q hQ => wpAny_Expr (he.run s ρ F S _ fun v h1 t1 ρ1 F1 r1 S1 p1 f1 => ?_) hi hs
  cases r1
  exact hQ (.next _ _) k _ h1 t1 ρ1 F1 ⟨rfl, S1⟩ p1 f1
theorem ex_aug {x : Str} {p' : Pos} {e : Expr} {op : Operator} (i : Nat) (he : Ev C lo st e b st1)
    (ho : ∀ (A : Around) (s : Shared) (ρ : List Addr) (F : Frz) (v u : Value), A.handled = none → Rep ρ F v a → Rep ρ F u b → ∀ Q : Value → Shared → Prop, (∀ z tk, Rep ρ F z c → Q z { s with toks := tk }) → wpAny (model C.P.prog C.P.w) A (inplaceOp op v u) Q NoE s)
    (k : Ex C (lo.set i (some c)) st1 rest K) (hx : C.keys[i]? = some x := by rfl) (hp : lo[i]? = some (some a) := by rfl) : Ex C lo st (.AugAssign (.Name x p') op e pos :: rest) K := by
  refine ex_cons fun s ρ F S Q hQ => ?_
  obtain ⟨m, v, hn, e0, q⟩ := S.load hx hp
  refine wpAny_AugAssign_Name (wpAny_loadName_local S.good.kind (S.good.locs x (keys_lt hx)) hn e0 (he.run s ρ F S _ fun u h1 t1 ρ1 F1 r1 S1 p1 f1 => ?_))
  refine ho _ _ ρ1 F1 v u S.good.hd (q.mono p1 f1) r1 _ fun z tk rz => ?_
  exact S1.storeName hx rz fun h' tk' S2 => hQ (.next _ _) k _ h' tk' ρ1 F1 ⟨rfl, S2⟩ p1 f1
theorem ex_if {test : Expr} {body orelse : List Stmt} {x : Bool} (ht : Tst C lo st test x st1) (h1 : x = true → Ex C lo st1 body (seqK C rest K)) (h2 : x = false → Ex C lo st1 orelse (seqK C rest K)) :
    Ex C lo st (.If test body orelse pos :: rest) K := by
  refine ex_cons fun s ρ F S Q hQ => wpAny_If (ht.run s ρ F S _ fun h' tk ρ1 F1 S1 p1 f1 => ?_)
  cases x with
  | true => exact (h1 rfl).run _ ρ1 F1 S1 Q fun o ko f h2 tk2 ρ2 F2 os p2 g2 => hQ o ko f h2 tk2 ρ2 F2 os (p1.trans p2) (f1.trans g2)
  | false => exact (h2 rfl).run _ ρ1 F1 S1 Q fun o ko f h2 tk2 ρ2 F2 os p2 g2 => hQ o ko f h2 tk2 ρ2 F2 os (p1.trans p2) (f1.trans g2)
/-- an if that only one way is taken of -/
theorem ex_if_t {test : Expr} {body orelse : List Stmt} (ht : Tst C lo st test true st1) (h1 : Ex C lo st1 body (seqK C rest K)) : Ex C lo st (.If test body orelse pos :: rest) K :=
  ex_if ht (fun _ => h1) fun e => nomatch e
theorem ex_if_f {test : Expr} {body orelse : List Stmt} (ht : Tst C lo st test false st1) (h1 : Ex C lo st1 orelse (seqK C rest K)) : Ex C lo st (.If test body orelse pos :: rest) K :=
  ex_if ht (fun e => nomatch e) fun _ => h1

/-- while: the loop's own judgement, turn by turn -/
noncomputable def Wh (C : Cx) (lo : List (Option PV)) (st : List Cell) (test : Expr) (body : List Stmt) (K : Out → Prop) : Prop :=
  ∀ (s : Shared) (ρ : List Addr) (F : Frz), Sim C lo st ρ F s.heap → ∀ R : Result → Shared → Prop,
    (∀ o, K o → ∀ f h' tk ρ' F', OutSim C ρ' F' h' f o → ρ <+: ρ' → FLe F F' → R (.ok f) (Rest s h' tk)) →
    codeAny (model C.P.prog C.P.w) C.A (.whileLoop test body [] C.env) R s
theorem ex_while {test : Expr} {body : List Stmt} (h : Wh C lo st test body (seqK C rest K)) : Ex C lo st (.While test body [] pos :: rest) K := by
  refine ex_cons fun s ρ F S Q hQ => wpAny_While (h s ρ F S _ fun o ko f h' tk ρ' F' os p g => ?_)
  exact hQ o ko f h' tk ρ' F' os p g
theorem wpAny_noE {α : Type} {M : Model} {A : Around} {t : Sem α} {Q : α → Shared → Prop} {E : Value → Shared → Prop} {s : Shared} (h : wpAny M A t Q NoE s) : wpAny M A t Q E s :=
  wpAny_mono h (fun _ _ x => x) fun _ _ x => x.elim
theorem wh_step {test : Expr} {body : List Stmt} {x : Bool} (ht : Tst C lo st test x st1)
    (h1 : x = true → Ex C lo st1 body (fun o => match o with | .next lo' st' => Wh C lo' st' test body K | .cont lo' st' => Wh C lo' st' test body K | .brk lo' st' => K (.next lo' st') | .ret r s => K (.ret r s)))
    (h2 : x = false → K (.next lo st1)) : Wh C lo st test body K := by
  intro s ρ F S R hR
  refine codeAny_of_tree ?_
  show wpAny _ C.A ((whileTurn test body [] C.env).onRaise (fun x => do noteFrame x C.env; theTreesLotGoes x)) _ _ s
  refine wpAny_noted ?_
  simp only [whileTurn]
  refine wpAny_bind (wpAny_noE (ht.run s ρ F S _ fun h' tk ρ1 F1 S1 p1 f1 => ?_))
  cases x with
  | false =>
    simp only [Bool.false_eq_true, if_false]
    exact wpAny_bind (wpAny_execs_nil (wpAny_pure (hR (.next lo st1) (h2 rfl) _ h' tk ρ1 F1 ⟨rfl, S1⟩ p1 f1)))
  | true =>
    simp only [if_true]
    refine wpAny_bind (wpAny_noE ((h1 rfl).run _ ρ1 F1 S1 _ fun o ko f h2 tk2 ρ2 F2 os p2 g2 => ?_))
    have up : ∀ o, K o → ∀ f h' tk ρ' F', OutSim C ρ' F' h' f o → ρ2 <+: ρ' → FLe F2 F' → R (.ok f) (Rest (Rest (Rest s h' tk) h2 tk2) h' tk) :=
      fun o ko f h3 tk3 ρ3 F3 os p3 g3 => hR o ko f h3 tk3 ρ3 F3 os ((p1.trans p2).trans p3) ((f1.trans g2).trans g3)
    cases o with
    | next lo' st' => obtain ⟨rfl, S2⟩ := os; exact wpAny_pure ⟨rfl, ko _ ρ2 F2 S2 R up⟩
    | cont lo' st' => obtain ⟨rfl, S2⟩ := os; exact wpAny_pure ⟨rfl, ko _ ρ2 F2 S2 R up⟩
    | brk lo' st' => obtain ⟨rfl, S2⟩ := os; exact wpAny_pure (hR (.next lo' st') ko _ h2 tk2 ρ2 F2 ⟨rfl, S2⟩ (p1.trans p2) (f1.trans g2))
    | ret r s' => obtain ⟨v, rfl, S2⟩ := os; exact wpAny_pure (hR (.ret r s') ko _ h2 tk2 ρ2 F2 ⟨v, rfl, S2⟩ (p1.trans p2) (f1.trans g2))
end
end Mine
end
section
open PySem PySem.W PySem.Calls PyProof.Rows
set_option Elab.async false
set_option autoImplicit false
set_option linter.all false
set_option maxRecDepth 100000
namespace Mine

theorem Sim.h0_none {C : Cx} {lo : List (Option PV)} {st : List Cell} {ρ : List Addr} {F : Frz} {h : Heap} (S : Sim C lo st ρ F h) {a : Addr} (ha : F a = none) : C.P.h0.get? a = none := by
  cases e : C.P.h0.get? a with
  | none => rfl
  | some o => rw [S.s.gnd a o e] at ha; cases ha
theorem notData_type {T : String} {d : Data} (h : T ≠ "tuple") : NotData { cls := .type T, data := d } :=
  ⟨fun vs e => h (by injection e with e1; injection e1), fun C d e => by injection e with e1; cases e1⟩

/-- for over an iterator whose items are told: the loop's own judgement -/
noncomputable def Fo (C : Cx) (lo : List (Option PV)) (st : List Cell) (x : Str) (px : Pos) (body : List Stmt) (items : List PV) (K : Out → Prop) : Prop :=
  ∀ (s : Shared) (ρ : List Addr) (F : Frz) (I : Addr) (fp : List Addr) (n i : Nat) (P : Nat → Value → Prop) (St : Nat → Heap → Prop), Sim C lo st ρ F s.heap →
    Walks C.P.prog C.P.w C.A I fp [I] n P St → (∀ b ∈ fp, b = I ∨ (F b).isSome = true) → F I = none → I ∉ ρ → I ≠ C.env.locals → i + items.length = n → St i s.heap →
    (∀ (i : Nat) (h : Heap), St i h → ∃ o, h.get? I = some o ∧ NotData o) →
    (∀ (k : Nat) (p : PV), items[k]? = some p → ∀ v, P (i + k) v → Rep ρ F v p) →
    ∀ R : Result → Shared → Prop, (∀ o, K o → ∀ f h' tk ρ' F', OutSim C ρ' F' h' f o → ρ <+: ρ' → FLe F F' → R (.ok f) (Rest s h' tk)) →
    codeAny (model C.P.prog C.P.w) C.A (.forLoop (.Name x px) (.ref I) body [] C.env) R s

section
variable {C : Cx} {lo : List (Option PV)} {st st1 st2 st3 : List Cell} {pos : Pos} {a b c r : PV} {K : Out → Prop} {rest : List Stmt} {x : Str} {px : Pos} {body : List Stmt} {items : List PV}

theorem OutSim.thaw {ρ : List Addr} {F : Frz} {h : Heap} {f : Flow} {a : Addr} {o : Obj} (ha : F a = some o) (ho : NotData o) (hg : C.P.h0.get? a = none) : ∀ {q : Out}, OutSim C ρ F h f q → OutSim C ρ (delF F a) h f q
  | .next _ _, ⟨e, S⟩ => ⟨e, S.thaw ha ho hg⟩
  | .brk _ _, ⟨e, S⟩ => ⟨e, S.thaw ha ho hg⟩
  | .cont _ _, ⟨e, S⟩ => ⟨e, S.thaw ha ho hg⟩
  | .ret _ _, ⟨v, e, r, S, l⟩ => ⟨v, e, r.thaw ha ho, S.thaw ha ho hg, by unfold delF; split <;> first | rfl | exact l⟩

/-- a frozen stand-in for an object that is there -/
theorem Sim.freeze {ρ : List Addr} {F : Frz} {h : Heap} {I : Addr} {o : Obj} (S : Sim C lo st ρ F h) (h1 : F I = none) (h2 : I ∉ ρ) (h3 : I ≠ C.env.locals) (ho : h.get? I = some o) : Sim C lo st ρ (addF F I o) h := by
  have le := addF_le (o := o) h1
  refine ⟨S.good, ⟨fun b q e => ?_, fun b q e => le b q (S.s.gnd b q e), S.s.nod, fun b hb => ?_, S.s.len, S.s.tb, fun i c e => ?_⟩, ?_, S.L2, S.len, S.cel, ?_⟩
  · unfold addF at e; split at e
    · rename_i z; subst z; cases e; exact ho
    · exact S.s.fin b q e
  · unfold addF; split
    · rename_i z; subst z; exact absurd hb h2
    · exact S.s.off b hb
  · obtain ⟨b, e1, k⟩ := S.s.cells i c e
    exact ⟨b, e1, k.mono (List.prefix_refl _) le fun o q => q⟩
  · unfold addF; rw [if_neg (Ne.symm h3)]; exact S.L1
  · obtain ⟨m, hn, hm⟩ := S.ns
    exact ⟨m, hn, fun i x hx => (hm i x hx).mono (List.prefix_refl _) le⟩

theorem keep_off {ρ : List Addr} {F : Frz} {I : Addr} {L : Addr} {h h' : Heap} (hFI : F I = none) (hI : I ∉ ρ) (hL : I ≠ L) (hk : ∀ b o, b ∉ [I] → h.get? b = some o → h'.get? b = some o) :
    ∀ a o, h.get? a = some o → (a ∈ ρ ∨ (F a).isSome = true ∨ a = L) → h'.get? a = some o := fun b o e q => hk b o (fun z => by
  rw [List.mem_singleton.mp z] at q
  rcases q with q | q | q
  · exact hI q
  · rw [hFI] at q; cases q
  · exact hL q) e

theorem fo_nil (k : K (.next lo st)) : Fo C lo st x px body [] K := by
  intro s ρ F I fp n i P St S W hfp hFI hI hL hn hst hob hP R hR
  refine codeAny_forLoop (fun _ s' => s' = s) ?_ 0 rfl
  rintro _ s' rfl
  have e : i = n := by simpa using hn
  subst e
  refine W.done _ _ _ hst fun h1 tk1 hk1 => wpAny_execs_nil (hR (.next lo st) k _ h1 tk1 ρ F ⟨rfl, S.keep (keep_off hFI hI hL hk1)⟩ (List.prefix_refl _) (FLe.refl _))

theorem fo_step {p : PV} (i : Nat) (hx : C.keys[i]? = some x)
    (h1 : Ex C (lo.set i (some p)) st body (fun o => match o with | .next lo' st' => Fo C lo' st' x px body items K | .cont lo' st' => Fo C lo' st' x px body items K | .brk lo' st' => K (.next lo' st') | .ret r s => K (.ret r s))) :
    Fo C lo st x px body (p :: items) K := by
  intro s ρ F I fp n j P St S W hfp hFI hI hL hn hst hob hP R hR
  have hg : C.P.h0.get? I = none := S.h0_none hFI
  refine codeAny_of_tree ?_
  show wpAny _ _ ((forTurn (.Name x px) (.ref I) body [] C.env).onRaise (fun x => do noteFrame x C.env; theTreesLotGoes x)) _ _ s
  refine wpAny_noted ?_
  simp only [forTurn]
  refine wpAny_bind (wpAny_standAt (wpAny_bind (wpAny_onRaise ?_)))
  refine W.item j _ _ _ (by simp at hn; omega) hst fun v h2 tk2 hPv hst2 hk2 => ?_
  refine wpAny_bind (wpAny_of_eq (show letOwnedTupleGo (.Name x px) (.ref I) v = pure () from rfl) ?_)
  have S2 : Sim C lo st ρ F h2 := S.keep (keep_off hFI hI hL hk2)
  obtain ⟨o2, ho2, hd2⟩ := hob _ _ hst2
  have Sf := S2.freeze hFI hI hL ho2
  have le := addF_le (o := o2) hFI
  refine wpAny_bind (wpAny_assign_Name (Sf.storeName hx ((hP 0 p rfl v hPv).mono (List.prefix_refl _) le) fun h3 tk3 S3 => ?_))
  refine wpAny_bind (wpAny_noE (h1.run _ ρ _ S3 _ fun o ko f h4 tk4 ρ4 F4 os p4 g4 => ?_))
  have hI4 : F4 I = some o2 := g4 _ _ addF_self
  have leD : FLe F (delF F4 I) := delF_le hFI (le.trans g4)
  have os' := os.thaw hI4 hd2 hg
  -- what stands behind the turn
  have next : ∀ lo' st' f, f = Flow.next ∨ f = Flow.cont → Sim C lo' st' ρ4 (delF F4 I) h4 → (∀ b o, F4 b = some o → h4.get? b = some o) → I ∉ ρ4 → Fo C lo' st' x px body items K →
      codeAny (model C.P.prog C.P.w) C.A (.forLoop (.Name x px) (.ref I) body [] C.env) R (Rest s h4 tk4) := by
    intro lo' st' f _ S4 hfin hI' hFo
    refine hFo _ ρ4 (delF F4 I) I fp n (j + 1) P St S4 W (fun b hb => (hfp b hb).imp id fun q => ?_) (by unfold delF; rw [if_pos rfl]) hI' hL (by simp at hn ⊢; omega) (W.frame _ _ _ hst2 fun b hb o e => ?_) hob (fun k q hk v hv => ?_) R fun o ko f h5 tk5 ρ5 F5 os5 p5 g5 => hR o ko f h5 tk5 ρ5 F5 os5 (p4.trans p5) (leD.trans g5)
    · obtain ⟨o, e⟩ := Option.isSome_iff_exists.mp q
      rw [leD _ _ e]; rfl
    · rcases hfp b hb with z | q
      · subst z; rw [ho2] at e; cases e; exact hfin _ _ hI4
      · obtain ⟨o', e'⟩ := Option.isSome_iff_exists.mp q
        have := S2.s.fin _ _ e'
        rw [e] at this; cases this
        exact hfin _ _ (g4 _ _ (le _ _ e'))
    · exact (hP (k + 1) q hk v (by rw [show j + (k + 1) = j + 1 + k by omega]; exact hv)).mono p4 leD
  cases o with
  | next lo' st' => obtain ⟨rfl, S4⟩ := os'; exact wpAny_pure ⟨rfl, next lo' st' _ (.inl rfl) S4 os.2.s.fin (fun q => by have := os.2.s.off _ q; rw [hI4] at this; cases this) ko⟩
  | cont lo' st' => obtain ⟨rfl, S4⟩ := os'; exact wpAny_pure ⟨rfl, next lo' st' _ (.inl rfl) S4 os.2.s.fin (fun q => by have := os.2.s.off _ q; rw [hI4] at this; cases this) ko⟩
  | brk lo' st' => obtain ⟨rfl, S4⟩ := os'; exact wpAny_pure (hR (.next lo' st') ko _ h4 tk4 ρ4 _ ⟨rfl, S4⟩ p4 leD)
  | ret r s' => obtain ⟨v, rfl, S4⟩ := os'; exact wpAny_pure (hR (.ret r s') ko _ h4 tk4 ρ4 _ ⟨v, rfl, S4⟩ p4 leD)
end
end Mine
end
section
open PySem PySem.W PySem.Calls PyProof.Rows
set_option Elab.async false
set_option autoImplicit false
set_option linter.all false
set_option maxRecDepth 100000
namespace Mine

section
variable {C : Cx} {lo : List (Option PV)} {st st1 st2 st3 : List Cell} {pos : Pos} {a b c r : PV} {K : Out → Prop} {rest : List Stmt} {x : Str} {px : Pos} {body : List Stmt} {items : List PV}

theorem Sim.grd {ρ : List Addr} {F : Frz} {h : Heap} (S : Sim C lo st ρ F h) : ∀ x o, C.P.h0.get? x = some o → h.get? x = some o := fun x o e => S.s.fin x o (S.s.gnd x o e)

theorem ev_glob {v : Value} (i j : Nat) (hx : C.gkeys[i]? = some x := by rfl) (hv : C.T.glob[j]? = some (x, v) := by rfl) (hd : (x == ("__debug__" : Str)) = false := by decide) : Ev C lo st (.Name x pos) (.val v) st := by
  refine .mk fun s ρ F S Q hQ => ?_
  obtain ⟨mg, hg, hv', _⟩ := S.good.gd.glob
  refine Name_function_global S.good.kind (S.good.globs x (List.mem_of_getElem? hx)) (loadGlobal_global (mg := mg) ?_ (hv' _ (List.mem_of_getElem? hv)) (hQ _ s.heap s.toks ρ F (.val _) S (List.prefix_refl _) (FLe.refl _))) hd
  rw [S.good.glb]; exact hg.keeps S.grd
theorem ev_blt {v : Value} (i j : Nat) (hb : bootBuiltins x = some v) (hn : x ≠ "__name__" := by decide) (hx : C.gkeys[i]? = some x := by rfl) (hv : C.T.miss[j]? = some x := by rfl) (hd : (x == ("__debug__" : Str)) = false := by decide) : Ev C lo st (.Name x pos) (.val v) st := by
  refine .mk fun s ρ F S Q hQ => ?_
  obtain ⟨mg, hg, _, hm⟩ := S.good.gd.glob
  obtain ⟨mb, hb', hbb⟩ := S.good.gd.blt
  refine Name_function_global S.good.kind (S.good.globs x (List.mem_of_getElem? hx)) (loadGlobal_builtin (mg := mg) (mb := mb) ?_ (hm _ (List.mem_of_getElem? hv)) ?_ ((hbb x hn).trans hb) (hQ _ s.heap s.toks ρ F (.val _) S (List.prefix_refl _) (FLe.refl _))) hd
  · rw [S.good.glb]; exact hg.keeps S.grd
  · rw [S.good.blt]; exact hb'.keeps S.grd

theorem evs_nil : Evs C lo st [] [] st := .mk fun pos s ρ F S Q hQ => args_nil (hQ _ s.heap s.toks ρ F .nil S (List.prefix_refl _) (FLe.refl _))
theorem evs_cons {e : Expr} {es : List Expr} {rs : List PV} (he : Ev C lo st e r st1) (hs : Evs C lo st1 es rs st2) (hq : starEach (e :: es) C.env = (false, eval e C.env) :: starEach es C.env := by rfl) : Evs C lo st (e :: es) (r :: rs) st2 := by
  refine .mk fun pos s ρ F S Q hQ => ?_
  refine args_cons (he.run s ρ F S _ fun v h1 t1 ρ1 F1 r1 S1 p1 f1 => hs.run pos _ ρ1 F1 S1 _ fun vs h2 t2 ρ2 F2 r2 S2 p2 f2 => ?_) hq
  exact hQ _ h2 t2 ρ2 F2 (.cons (r1.mono p2 f2) r2) S2 (p1.trans p2) (f1.trans f2)

theorem Cl.use {lv : Nat} {f : Value} {vs : List PV} {s : Shared} {ρ : List Addr} {F : Frz} {rs : List Value} (hc : Cl C.P C.T lv f vs st r st1) (hl : lv ≤ C.lv) (S : Sim C lo st ρ F s.heap) (hr : Reps ρ F rs vs) {Q : Value → Shared → Prop}
    (hQ : ∀ v h' tk ρ' F', Rep ρ' F' v r → Sim C lo st1 ρ' F' h' → ρ <+: ρ' → FLe F F' → Q v (Rest s h' tk)) : wpAny (model C.P.prog C.P.w) C.A (call f rs) Q NoE s := by
  obtain ⟨m, ⟨oL, es, ep, eL, dL, kL⟩, hm⟩ := S.ns
  have nd : NotData oL := ⟨fun vs e => (by rw [e] at dL; cases dL), fun C d e => (by rw [e] at dL; cases dL)⟩
  have le := addF_le (o := oL) S.L1
  have SF : SimS C.P st ρ (addF F C.env.locals oL) s.heap := by
    refine ⟨fun b q e => ?_, fun b q e => le b q (S.s.gnd b q e), S.s.nod, fun b hb => ?_, S.s.len, S.s.tb, fun i c e => ?_⟩
    · unfold addF at e; split at e
      · rename_i z; subst z; cases e; exact eL
      · exact S.s.fin b q e
    · unfold addF; split
      · rename_i z; subst z; exact absurd hb S.L2
      · exact S.s.off b hb
    · obtain ⟨b, e1, k⟩ := S.s.cells i c e
      exact ⟨b, e1, k.mono (List.prefix_refl _) le fun o q => q⟩
  have hu := S.good.units
  have hro := S.good.room
  refine hc C.A s ρ _ rs S.good.gd S.good.hd (by omega) (by omega) SF (hr.mono (List.prefix_refl _) le) Q fun v h' tk ρ' F' rv S' p g => ?_
  have e' : F' C.env.locals = some oL := g _ _ addF_self
  have hg0 := S.h0_none S.L1
  refine hQ v h' tk ρ' (delF F' C.env.locals) (rv.thaw e' nd) ⟨S.good, S'.thaw e' nd hg0, by unfold delF; rw [if_pos rfl], fun q => ?_, S.len, (fun q hq => let ⟨a, e1, e2⟩ := S.cel q hq; ⟨a, e1, pre_get p e2⟩), m, ⟨oL, es, ep, S'.fin _ _ e', dL, kL⟩, fun i x hx => ((hm i x hx).mono p (le.trans g)).thaw e' nd⟩ p (delF_le S.L1 (le.trans g))
  have := S'.off _ q; rw [e'] at this; cases this

theorem ev_call {f : Expr} {args : List Expr} {e0 : Expr} {a : Addr} {fd : FuncData} {lv k : Nat} {vs : List PV} (hf : Ev C lo st f (.val (.ref a)) st) (ha : Evs C lo st (e0 :: args) vs st1) (hc : Cl C.P C.T lv (.ref a) vs st1 r st2) (hl : lv ≤ C.lv)
    (hk : C.T.fns[k]? = some (a, fd)) (hq : starEach (e0 :: args) C.env = (false, eval e0 C.env) :: starEach args C.env := by rfl)
    (he : eval (.Call f (e0 :: args) [] pos) C.env = (do callWith pos (← eval f C.env) [] (backTo pos (starEach (e0 :: args) C.env)) (backToKw pos (keywordEach [] C.env))) := by rfl) : Ev C lo st (.Call f (e0 :: args) [] pos) r st2 := by
  refine .mk fun s ρ F S Q hQ => ?_
  refine Call_ (hf.run s ρ F S _ fun v h1 t1 ρ1 F1 r1 S1 p1 f1 => ?_) he
  cases r1
  obtain ⟨o, ho, hd, _⟩ := S.good.gd.fns _ (List.mem_of_getElem? hk)
  refine callWith_def (o := o) (fd := fd) hd (ha.run pos _ ρ1 F1 S1 _ fun vs h2 t2 ρ2 F2 r2 S2 p2 f2 => ⟨S2.grd _ _ ho, ?_⟩) hq
  exact hc.use hl S2 r2 fun v h' tk ρ' F' rv S' p g => hQ v h' tk ρ' F' rv S' ((p1.trans p2).trans p) ((f1.trans f2).trans g)
theorem ev_callb {f : Expr} {args : List Expr} {e0 : Expr} {id : String} {lv : Nat} {vs : List PV} (hf : Ev C lo st f (.val (.builtin id)) st) (ha : Evs C lo st (e0 :: args) vs st1) (hc : Cl C.P C.T lv (.builtin id) vs st1 r st2) (hl : lv ≤ C.lv)
    (hq : starEach (e0 :: args) C.env = (false, eval e0 C.env) :: starEach args C.env := by rfl) (hp : ∀ pos : Pos, (backTo pos (starEach args C.env)).any (·.1) = false := by intro _; rfl)
    (he : eval (.Call f (e0 :: args) [] pos) C.env = (do callWith pos (← eval f C.env) [] (backTo pos (starEach (e0 :: args) C.env)) (backToKw pos (keywordEach [] C.env))) := by rfl) : Ev C lo st (.Call f (e0 :: args) [] pos) r st2 := by
  refine .mk fun s ρ F S Q hQ => ?_
  refine Call_ (hf.run s ρ F S _ fun v h1 t1 ρ1 F1 r1 S1 p1 f1 => ?_) he
  cases r1
  refine PyProof.Rows.callWith_builtin1 (ha.run pos _ ρ1 F1 S1 _ fun vs h2 t2 ρ2 F2 r2 S2 p2 f2 => ?_) hq (hp pos)
  exact hc.use hl S2 r2 fun v h' tk ρ' F' rv S' p g => hQ v h' tk ρ' F' rv S' ((p1.trans p2).trans p) ((f1.trans f2).trans g)
theorem ev_callt {f : Expr} {args : List Expr} {e0 : Expr} {id : String} {lv : Nat} {vs : List PV} (hf : Ev C lo st f (.val (.type id)) st) (ha : Evs C lo st (e0 :: args) vs st1) (hc : Cl C.P C.T lv (.type id) vs st1 r st2) (hl : lv ≤ C.lv)
    (hq : starEach (e0 :: args) C.env = (false, eval e0 C.env) :: starEach args C.env := by rfl) (hp : ∀ pos : Pos, (backTo pos (starEach args C.env)).any (·.1) = false := by intro _; rfl)
    (he : eval (.Call f (e0 :: args) [] pos) C.env = (do callWith pos (← eval f C.env) [] (backTo pos (starEach (e0 :: args) C.env)) (backToKw pos (keywordEach [] C.env))) := by rfl) : Ev C lo st (.Call f (e0 :: args) [] pos) r st2 := by
  refine .mk fun s ρ F S Q hQ => ?_
  refine Call_ (hf.run s ρ F S _ fun v h1 t1 ρ1 F1 r1 S1 p1 f1 => ?_) he
  cases r1
  refine PyProof.Rows.callWith_type1 (ha.run pos _ ρ1 F1 S1 _ fun vs h2 t2 ρ2 F2 r2 S2 p2 f2 => ?_) hq (hp pos)
  exact hc.use hl S2 r2 fun v h' tk ρ' F' rv S' p g => hQ v h' tk ρ' F' rv S' ((p1.trans p2).trans p) ((f1.trans f2).trans g)

theorem get_size {h : Heap} : h.get? h.objs.size = none := Heap.get?_none_of_le (Nat.le_refl _)

theorem ev_tuple {es : List Expr} {k : Nat} {rs : List PV} (h : Evs C lo st es rs st1) (hz : rs.length ≤ 1000) : Ev C lo st (.Tuple es k pos) (.tup rs) st1 := by
  refine .mk fun s ρ F S Q hQ => ?_
  refine wpAny_Tuple (h.run pos s ρ F S _ fun vs h1 t1 ρ1 F1 r1 S1 p1 f1 => ⟨by rw [r1.length, sizeLine_eq]; omega, ?_⟩)
  have fr := S1.fresh (get_size (h := h1))
  have S2 := S1.addFrozen (o := tupObj vs) get_size (Heap.get?_push_size _ rfl) (fun b q e => Heap.get?_push_of_some _ e)
  have le := addF_le (o := tupObj vs) fr.1
  exact hQ _ _ t1 ρ1 _ (.tup addF_self (r1.mono (List.prefix_refl _) le)) S2 p1 (f1.trans le)
theorem ev_list {es : List Expr} {rs : List PV} (h : Evs C lo st es rs st1) (hz : rs.length ≤ 1000) : Ev C lo st (.List es pos) (.loc st1.length) (st1 ++ [.list rs]) := by
  refine .mk fun s ρ F S Q hQ => ?_
  refine wpAny_List (h.run pos s ρ F S _ fun vs h1 t1 ρ1 F1 r1 S1 p1 f1 => ⟨by rw [r1.length, sizeLine_eq]; omega, ?_⟩)
  have pre : ρ1 <+: ρ1 ++ [h1.objs.size] := List.prefix_append _ _
  have S2 := S1.addCell (c := .list rs) (get_size (h := h1)) (h' := h1.push (listOf vs.toArray 0)) ⟨vs.toArray, 0, Heap.get?_push_size _ rfl, by rw [List.toList_toArray]; exact r1.mono pre (FLe.refl _), by rw [List.size_toArray, r1.length]; exact hz⟩ (fun b q e => Heap.get?_push_of_some _ e)
  refine hQ _ _ t1 _ F1 (.loc ?_) S2 (p1.trans pre) f1
  rw [List.getElem?_append_right (by rw [S1.s.len]; exact Nat.le_refl _), S1.s.len, Nat.sub_self]; rfl

/-- a def's facts that do not hang on the call -/
structure FnOK (fd : FuncData) (params keys gkeys : List Str) (body : List Stmt) : Prop where
  body : fd.body = .stmts body
  bind : ∀ rs : List Value, rs.length = params.length → bindArgs fd ⟨rs, []⟩ = pure (params.zip rs)
  cell : ∀ x ∈ fd.scope.names, x.2 ≠ .cell
  par : ∃ more, keys = params ++ more
  locs : ∀ x ∈ keys, fd.scope.names.lookup x = some .local
  globs : ∀ x ∈ gkeys, fd.scope.names.lookup x = some .globalImplicit
  nd : keys.Nodup
  kind : fd.scope.kind = .function
  co : fd.scope.isCoroutine = false
  gen : fd.scope.isGenerator = false
  glb : fd.globals = mainGlobals
  blt : fd.builtins = builtinsNs

noncomputable def mkCx (P : Pg) (T : Tabs) (A : Around) (fd : FuncData) (L f : Addr) (keys gkeys : List Str) (lv : Nat) (ckeys : List (Str × Nat) := []) : Cx :=
  { P := P, T := T, A := A.deeper (callEnv fd L f), env := callEnv fd L f, keys := keys, gkeys := gkeys, lv := lv, ckeys := ckeys }

noncomputable def RetIs (r : PV) (st : List Cell) : Out → Prop
  | .ret q s => q = r ∧ s = st
  | .next _ s => r = .none ∧ s = st
  | _ => False

theorem lookup_nodup {α : Type} : ∀ {cs : List (Str × α)} {n : Str} {c : α}, (cs.map (·.1)).Nodup → (n, c) ∈ cs → cs.lookup n = some c
  | (n', c') :: cs, n, c, hnd, hm => by
    rw [List.map_cons, List.nodup_cons] at hnd
    rcases List.mem_cons.mp hm with e | hm
    · cases e; simp
    · have hne : (n == n') = false := by
        rw [beq_eq_false_iff_ne]; intro q; refine hnd.1 ?_; rw [← q]; exact List.mem_map.mpr ⟨_, hm, rfl⟩
      rw [List.lookup_cons, hne]; exact lookup_nodup hnd.2 hm
theorem lookup_zip {α : Type} : ∀ {ks : List Str} {vs : List α}, ks.Nodup → ks.length = vs.length → ∀ {i : Nat} {x : Str} {v : α}, ks[i]? = some x → vs[i]? = some v → (ks.zip vs).reverse.lookup x = some v := by
  intro ks vs hnd hlen i x v hx hv
  have hmem : (x, v) ∈ (ks.zip vs).reverse := by
    rw [List.mem_reverse]
    refine List.mem_of_getElem? (i := i) ?_
    rw [List.getElem?_zip_eq_some]; exact ⟨hx, hv⟩
  refine lookup_nodup ?_ hmem
  rw [List.map_reverse]
  have : (ks.zip vs).map (·.1) = ks := List.map_fst_zip (by omega)
  rw [this]; exact List.pairwise_reverse.mpr (hnd.imp fun q => q.symm)

noncomputable def RetSim (P : Pg) (ρ : List Addr) (F : Frz) (h : Heap) (v : Value) : Out → Prop
  | .ret r st => Rep ρ F v r ∧ SimS P st ρ F h
  | .next _ st => v = .none ∧ SimS P st ρ F h
  | _ => True
noncomputable def NoLoop : Out → Prop
  | .brk _ _ => False
  | .cont _ _ => False
  | _ => True
theorem code_gen {P : Pg} {T : Tabs} {lv : Nat} {f : Addr} {fd : FuncData} {params keys gkeys : List Str} {body : List Stmt} {vs : List PV} {st : List Cell} {K : Out → Prop} {ckeys : List (Str × Nat)} (ok : FnOK fd params keys gkeys body) (hn : vs.length = params.length)
    (A : Around) (s : Shared) (ρ : List Addr) (F : Frz) (rs : List Value) {o : Obj} (ho : s.heap.get? f = some o) (hd : o.data = .func fd) (hcd : s.heap.CodeRec fd.code fd.qualname)
    (hfree : ∀ q ∈ ckeys, fd.scope.names.lookup q.1 = some .free ∧ ∃ a, fd.closure.lookup q.1 = some a ∧ ρ[q.2]? = some a)
    (h : ∀ (L : Addr), Ex (mkCx P T A fd L f keys gkeys lv ckeys) (vs.map some ++ List.replicate (keys.length - vs.length) none) st body K)
    (G : Gd P T) (hA : A.handled = none) (hro : A.depth + (lv + 1) < recursionLimit) (hu : A.units + 20 * (lv + 1) < cLine)
    (S : SimS P st ρ F s.heap) (hr : Reps ρ F rs vs) (R : Result → Shared → Prop)
    (hQ : ∀ v h' tk ρ' F' o, K o → RetSim P ρ' F' h' v o → ρ <+: ρ' → FLe F F' → R (.ok (.ret v)) (Rest s h' tk)) :
    codeAny (model P.prog P.w) A (.call (.ref f) ⟨rs, []⟩) R s := by
  have grd : ∀ x o, P.h0.get? x = some o → s.heap.get? x = some o := fun x o e => S.fin x o (S.gnd x o e)
  obtain ⟨more, hpar⟩ := ok.par
  have hpk : ∀ (i : Nat) (x : Str), params[i]? = some x → keys[i]? = some x := fun i x e => by rw [hpar]; exact pre_get (List.prefix_append _ _) e
  have hpn : params.Nodup := (hpar ▸ ok.nd : (params ++ more).Nodup).sublist (List.sublist_append_left _ _)
  refine codeAny_call_def (fd := fd) (body := body) (binds := params.zip rs) (by omega) ho hd (G.nolim.keeps grd) hcd ok.body (.of_eq (ok.bind rs (by rw [hr.length, hn]))) ok.cell (fun x hx => ?_) (fun h1 hns hk1 => ?_) ok.co ok.gen ok.kind
  · have hm : x.1 ∈ params := (List.of_mem_zip hx).1
    exact ok.locs _ (hpar ▸ List.mem_append_left _ hm)
  · have fr := S.fresh (get_size (h := s.heap))
    have good : GoodCx (mkCx P T A fd s.heap.objs.size f keys gkeys lv ckeys) :=
      ⟨G, hA, by show A.depth + 1 + lv < recursionLimit; omega, by show A.units + 3 + 20 * lv < cLine; omega, ok.kind, ok.locs, ok.globs, ok.nd, (fun q hq => .inr (hfree q hq).1), ok.glb, ok.blt⟩
    have S1 : Sim (mkCx P T A fd s.heap.objs.size f keys gkeys lv ckeys) (vs.map some ++ List.replicate (keys.length - vs.length) none) st ρ F h1 := by
      refine ⟨good, S.keep fun a o e _ => hk1 a o e, fr.1, fr.2, ?_, (fun q hq => (hfree q hq).2), _, hns, fun i x hx => ?_⟩
      · show (vs.map some ++ _).length = keys.length
        rw [List.length_append, List.length_map, List.length_replicate, hpar, List.length_append, hn]; omega
      · rcases Nat.lt_or_ge i vs.length with q | q
        · rw [List.getElem?_append_left (by rw [List.length_map]; exact q), List.getElem?_map, List.getElem?_eq_getElem q]
          obtain ⟨v, hv, rv⟩ := hr.get (List.getElem?_eq_getElem q)
          refine ⟨v, lookup_zip hpn (by rw [hr.length, hn]) (i := i) ?_ hv, rv⟩
          have hx' : keys[i]? = some x := hx
          have hi : i < params.length := hn ▸ q
          rw [hpar, List.getElem?_append_left hi] at hx'
          exact hx'
        · rw [List.getElem?_append_right (by rw [List.length_map]; exact q)]
          rcases Nat.lt_or_ge (i - (vs.map some).length) (keys.length - vs.length) with z | z
          · rw [List.getElem?_replicate, if_pos z]; trivial
          · rw [List.getElem?_eq_none (by rw [List.length_replicate]; exact z)]; trivial
    refine wpAny_mono ((h s.heap.objs.size).run (Rest s h1 (s.toks + (params.zip rs).length)) ρ F S1 (fun fl s' => R (.ok (.ret (match fl with | .ret v => v | _ => .none))) s') fun o ko fl h' tk ρ' F' os p g => ?_) (fun _ _ x => x) fun _ _ x => x.elim
    cases o with
    | ret q st2 =>
      obtain ⟨v, rfl, rv, S2, _⟩ := os
      exact hQ v h' tk ρ' F' _ ko ⟨rv, S2⟩ p g
    | next lo2 st2 =>
      obtain ⟨rfl, S2⟩ := os
      exact hQ .none h' tk ρ' F' _ ko ⟨rfl, S2.s⟩ p g
    | brk lo2 st2 =>
      obtain ⟨rfl, S2⟩ := os
      exact hQ .none h' tk ρ' F' _ ko trivial p g
    | cont lo2 st2 =>
      obtain ⟨rfl, S2⟩ := os
      exact hQ .none h' tk ρ' F' _ ko trivial p g
theorem code_rel {P : Pg} {T : Tabs} {lv k : Nat} {f : Addr} {fd : FuncData} {params keys gkeys : List Str} {body : List Stmt} {vs : List PV} {st : List Cell} {K : Out → Prop} (ok : FnOK fd params keys gkeys body) (hk : T.fns[k]? = some (f, fd)) (hn : vs.length = params.length)
    (h : ∀ (A : Around) (L : Addr), Ex (mkCx P T A fd L f keys gkeys lv) (vs.map some ++ List.replicate (keys.length - vs.length) none) st body K)
    (A : Around) (s : Shared) (ρ : List Addr) (F : Frz) (rs : List Value) (G : Gd P T) (hA : A.handled = none) (hro : A.depth + (lv + 1) < recursionLimit) (hu : A.units + 20 * (lv + 1) < cLine)
    (S : SimS P st ρ F s.heap) (hr : Reps ρ F rs vs) (R : Result → Shared → Prop)
    (hQ : ∀ v h' tk ρ' F' o, K o → RetSim P ρ' F' h' v o → ρ <+: ρ' → FLe F F' → R (.ok (.ret v)) (Rest s h' tk)) :
    codeAny (model P.prog P.w) A (.call (.ref f) ⟨rs, []⟩) R s := by
  obtain ⟨o, ho, hd, hcd⟩ := G.fns _ (List.mem_of_getElem? hk)
  have grd : ∀ x o, P.h0.get? x = some o → s.heap.get? x = some o := fun x o e => S.fin x o (S.gnd x o e)
  exact code_gen (ckeys := []) ok hn A s ρ F rs (grd _ _ ho) hd (hcd.keeps grd) (fun _ h => nomatch h) (h A) G hA hro hu S hr R hQ
theorem cl_rel {P : Pg} {T : Tabs} {lv k : Nat} {f : Addr} {fd : FuncData} {params keys gkeys : List Str} {body : List Stmt} {vs : List PV} {st : List Cell} {K : Out → Prop} (ok : FnOK fd params keys gkeys body) (hk : T.fns[k]? = some (f, fd)) (hn : vs.length = params.length)
    (h : ∀ (A : Around) (L : Addr), Ex (mkCx P T A fd L f keys gkeys lv) (vs.map some ++ List.replicate (keys.length - vs.length) none) st body K) :
    ∀ (A : Around) (s : Shared) (ρ : List Addr) (F : Frz) (rs : List Value), Gd P T → A.handled = none → A.depth + (lv + 1) < recursionLimit → A.units + 20 * (lv + 1) < cLine →
    SimS P st ρ F s.heap → Reps ρ F rs vs → ∀ Q : Value → Shared → Prop,
    (∀ v h' tk ρ' F' o, K o → RetSim P ρ' F' h' v o → ρ <+: ρ' → FLe F F' → Q v (Rest s h' tk)) →
    wpAny (model P.prog P.w) A (call (.ref f) rs) Q NoE s := by
  intro A s ρ F rs G hA hro hu S hr Q hQ
  exact wpAny_call (code_rel ok hk hn h A s ρ F rs G hA hro hu S hr _ hQ)
theorem cl_def {P : Pg} {T : Tabs} {lv k : Nat} {f : Addr} {fd : FuncData} {params keys gkeys : List Str} {body : List Stmt} {vs : List PV} {st st' : List Cell} {r : PV} (ok : FnOK fd params keys gkeys body) (hk : T.fns[k]? = some (f, fd)) (hn : vs.length = params.length)
    (h : ∀ (A : Around) (L : Addr), Ex (mkCx P T A fd L f keys gkeys lv) (vs.map some ++ List.replicate (keys.length - vs.length) none) st body (RetIs r st')) : Cl P T (lv + 1) (.ref f) vs st r st' := by
  intro A s ρ F rs G hA hro hu S hr Q hQ
  refine cl_rel ok hk hn h A s ρ F rs G hA hro hu S hr Q fun v h' tk ρ' F' o ko hv p f => ?_
  cases o with
  | ret q st2 => obtain ⟨rfl, rfl⟩ := ko; exact hQ v h' tk ρ' F' hv.1 hv.2 p f
  | next lo2 st2 =>
    obtain ⟨rfl, rfl⟩ := ko
    obtain ⟨rfl, S2⟩ := hv
    exact hQ .none h' tk ρ' F' .none S2 p f
  | brk _ _ => exact ko.elim
  | cont _ _ => exact ko.elim
end
end Mine
end
section
open PySem PySem.W PySem.Calls PyProof.Rows
set_option Elab.async false
set_option autoImplicit false
set_option linter.all false
set_option maxRecDepth 100000
namespace Mine

section
variable {ρ : List Addr} {F : Frz} {v : Value} {rs : List Value} {p q : PV}
theorem Reps.one (h : Reps ρ F rs [p]) : ∃ v, rs = [v] ∧ Rep ρ F v p := by
  cases h with
  | cons h1 h2 => cases h2; exact ⟨_, rfl, h1⟩
theorem Reps.two (h : Reps ρ F rs [p, q]) : ∃ v u, rs = [v, u] ∧ Rep ρ F v p ∧ Rep ρ F u q := by
  cases h with
  | cons h1 h2 =>
    obtain ⟨u, rfl, h3⟩ := h2.one
    exact ⟨_, u, rfl, h1, h3⟩
theorem Rep.toInt {x : Int} (h : Rep ρ F v (.int x)) : ∃ t, v = .int x t := by cases h; exact ⟨_, rfl⟩
theorem Rep.toStr {x : Str} (h : Rep ρ F v (.str x)) : ∃ t, v = .str x t := by cases h; exact ⟨_, rfl⟩
theorem Rep.toVal {x : Value} (h : Rep ρ F v (.val x)) : v = x := by cases h; rfl
theorem Rep.toBool {x : Bool} (h : Rep ρ F v (.bool x)) : v = .bool x := by cases h; rfl
theorem Rep.toLoc {j : Nat} (h : Rep ρ F v (.loc j)) : ∃ a, v = .ref a ∧ ρ[j]? = some a := by cases h with | loc h => exact ⟨_, rfl, h⟩
theorem Rep.toTup {l : List PV} (h : Rep ρ F v (.tup l)) : ∃ a vs, v = .ref a ∧ F a = some (tupObj vs) ∧ Reps ρ F vs l := by cases h with | tup h r => exact ⟨_, _, rfl, h, r⟩
end
section
variable {P : Pg} {T : Tabs} {lv : Nat} {st : List Cell} {x y : Int} {s t : Str} {p q : PV} {xs : List PV} {j : Nat}

theorem SimS.grow {ρ : List Addr} {F : Frz} {h h' : Heap} (S : SimS P st ρ F h) (hk : ∀ c o, h.get? c = some o → h'.get? c = some o) : SimS P st ρ F h' := S.keep fun a o e _ => hk a o e

theorem cl_max : Cl P T lv (.builtin "max") [.int x, .int y] st (.int (max x y)) st := by
  intro A s ρ F rs G hA _ _ S hr Q hQ
  obtain ⟨_, _, rfl, h1, h2⟩ := hr.two; obtain ⟨_, rfl⟩ := h1.toInt; obtain ⟨_, rfl⟩ := h2.toInt
  refine max_two_ints hA fun h' tk hk => ?_
  have e : ∀ (t u : Tok), ∃ w, (if y > x then Value.int y u else Value.int x t) = .int (max x y) w := fun t u => by
    by_cases z : y > x
    · exact ⟨u, by rw [if_pos z, Int.max_eq_right (by omega)]⟩
    · exact ⟨t, by rw [if_neg z, Int.max_eq_left (by omega)]⟩
  obtain ⟨w, e⟩ := e _ _
  rw [e]; exact hQ _ h' tk ρ F (.int _ _) (S.grow hk) (List.prefix_refl _) (FLe.refl _)
theorem cl_min : Cl P T lv (.builtin "min") [.int x, .int y] st (.int (min x y)) st := by
  intro A s ρ F rs G hA _ _ S hr Q hQ
  obtain ⟨_, _, rfl, h1, h2⟩ := hr.two; obtain ⟨_, rfl⟩ := h1.toInt; obtain ⟨_, rfl⟩ := h2.toInt
  refine min_two_ints hA fun h' tk hk => ?_
  have e : ∀ (t u : Tok), ∃ w, (if y < x then Value.int y u else Value.int x t) = .int (min x y) w := fun t u => by
    by_cases z : y < x
    · exact ⟨u, by rw [if_pos z, Int.min_eq_right (by omega)]⟩
    · exact ⟨t, by rw [if_neg z, Int.min_eq_left (by omega)]⟩
  obtain ⟨w, e⟩ := e _ _
  rw [e]; exact hQ _ h' tk ρ F (.int _ _) (S.grow hk) (List.prefix_refl _) (FLe.refl _)
theorem cl_abs : Cl P T lv (.builtin "abs") [.int x] st (.int (if x < 0 then -x else x)) st := by
  intro A s ρ F rs G hA _ _ S hr Q hQ
  obtain ⟨_, rfl, h1⟩ := hr.one; obtain ⟨_, rfl⟩ := h1.toInt
  exact PyProof.Rows.call_abs_int fun u tk => hQ _ s.heap tk ρ F (.int _ _) S (List.prefix_refl _) (FLe.refl _)
theorem cl_ord (h : s.length = 1) : Cl P T lv (.builtin "ord") [.str s] st (.int (s.cps.getD 0 0 : Nat)) st := by
  intro A sh ρ F rs G hA _ _ S hr Q hQ
  obtain ⟨_, rfl, h1⟩ := hr.one; obtain ⟨_, rfl⟩ := h1.toStr
  exact ord_of_one h (hQ _ sh.heap _ ρ F (.int _ _) S (List.prefix_refl _) (FLe.refl _))
theorem cl_lens (h : s.length < 1000000) : Cl P T lv (.builtin "len") [.str s] st (.int (s.length : Nat)) st := by
  intro A sh ρ F rs G hA _ _ S hr Q hQ
  obtain ⟨_, rfl, h1⟩ := hr.one; obtain ⟨_, rfl⟩ := h1.toStr
  exact PySem.P.len_str (by omega) (hQ _ sh.heap _ ρ F (.int _ _) S (List.prefix_refl _) (FLe.refl _))
theorem cl_str (h : x.natAbs.log2 < 1920) : Cl P T lv (.type "str") [.int x] st (.str (toString x)) st := by
  intro A sh ρ F rs G hA _ _ S hr Q hQ
  obtain ⟨_, rfl, h1⟩ := hr.one; obtain ⟨_, rfl⟩ := h1.toInt
  exact PySem.P.str_of_int h (hQ _ sh.heap _ ρ F (.str _ _) S (List.prefix_refl _) (FLe.refl _))
theorem cl_int : Cl P T lv (.type "int") [.int x] st (.int x) st := by
  intro A sh ρ F rs G hA _ _ S hr Q hQ
  obtain ⟨_, rfl, h1⟩ := hr.one; obtain ⟨_, rfl⟩ := h1.toInt
  exact PySem.call_int_int (hQ _ sh.heap sh.toks ρ F (.int _ _) S (List.prefix_refl _) (FLe.refl _))
theorem cl_isis : Cl P T lv (.builtin "isinstance") [.str s, .val (.type "str")] st (.bool true) st := by
  intro A sh ρ F rs G hA _ _ S hr Q hQ
  obtain ⟨_, _, rfl, h1, h2⟩ := hr.two; obtain ⟨_, rfl⟩ := h1.toStr; cases h2.toVal
  exact PySem.IsiPair.str_str (hQ _ sh.heap sh.toks ρ F (.bool _) S (List.prefix_refl _) (FLe.refl _))
theorem cl_isit {l : List PV} : Cl P T lv (.builtin "isinstance") [.tup l, .val (.type "str")] st (.bool false) st := by
  intro A sh ρ F rs G hA _ _ S hr Q hQ
  obtain ⟨_, _, rfl, h1, h2⟩ := hr.two; obtain ⟨_, _, rfl, hf, hr⟩ := h1.toTup; cases h2.toVal
  exact PySem.IsiPair.tuple_str (S.fin _ _ hf) rfl (hQ _ sh.heap _ ρ F (.bool _) S (List.prefix_refl _) (FLe.refl _))

theorem SimS.list {ρ : List Addr} {F : Frz} {h : Heap} (S : SimS P st ρ F h) {a : Addr} (ha : ρ[j]? = some a) (hj : st[j]? = some (.list xs)) : ∃ vs n, h.get? a = some (listOf vs n) ∧ Reps ρ F vs.toList xs ∧ vs.size ≤ 1000 := by
  obtain ⟨a', e, c⟩ := S.cells j _ hj
  rw [ha] at e; cases e; exact c
theorem cl_lenl (hj : st[j]? = some (.list xs)) : Cl P T lv (.builtin "len") [.loc j] st (.int (xs.length : Nat)) st := by
  intro A sh ρ F rs G hA _ _ S hr Q hQ
  obtain ⟨_, rfl, h1⟩ := hr.one; obtain ⟨a, rfl, hp⟩ := h1.toLoc
  obtain ⟨vs, n, hv, hr, hz⟩ := S.list hp hj
  have e : (vs.size : Int) = (xs.length : Nat) := by rw [← hr.length, Array.length_toList]
  refine call_len_list ⟨_, hv, rfl, n, rfl⟩ (by omega) ?_
  rw [e]
  exact hQ _ sh.heap _ ρ F (.int _ _) S (List.prefix_refl _) (FLe.refl _)
/-- list(l): a new list -/
theorem cl_copy (hj : st[j]? = some (.list xs)) : Cl P T lv (.type "list") [.loc j] st (.loc st.length) (st ++ [.list xs]) := by
  intro A sh ρ F rs G hA _ _ S hr Q hQ
  obtain ⟨_, rfl, h1⟩ := hr.one; obtain ⟨a, rfl, hp⟩ := h1.toLoc
  obtain ⟨vs, n, hv, hr, hz⟩ := S.list hp hj
  refine call_list_seq (hsz := by rw [sizeLine_eq]; omega) _ (.inl rfl) hv rfl rfl fun h' c' hk hD => ?_
  have pre : ρ <+: ρ ++ [sh.heap.objs.size] := List.prefix_append _ _
  have S2 := S.addCell (c := .list xs) (get_size (h := sh.heap)) (h' := h') ⟨vs, c', hD, hr.mono pre (FLe.refl _), hz⟩ hk
  refine hQ _ h' _ _ F (.loc ?_) S2 pre (FLe.refl _)
  rw [List.getElem?_append_right (by rw [S.len]; exact Nat.le_refl _), S.len, Nat.sub_self]; rfl

theorem cl_append (hj : st[j]? = some (.list xs)) (hz : xs.length < 1000) : Cl P T lv (.builtin "list.append") [.loc j, p] st .none (st.set j (.list (xs ++ [p]))) := by
  intro A sh ρ F rs G hA _ _ S hr Q hQ
  obtain ⟨_, v, rfl, h1, h2⟩ := hr.two; obtain ⟨a, rfl, hp⟩ := h1.toLoc
  obtain ⟨vs, n, hv, hr, hz'⟩ := S.list hp hj
  have e : vs.size = xs.length := by rw [← hr.length, Array.length_toList]
  refine wpAny_call_entry slot_list_append (⟨_, hv, rfl⟩ : sh.TypeIs (.ref a) "list") entry_list_append ?_ (args_list_append _ _)
  show wpAny _ _ (updateSeq a (·.push v) >>= fun _ => ret .none) _ _ sh
  refine wpAny_bind (wpAny_updateSeq hv rfl (wpAny_pure ⟨.none, rfl, ?_⟩) (hz := by rw [sizeLine_eq]; omega))
  have q := PySem.IsL.update hv (fun x => x.push v)
  refine hQ _ _ sh.toks ρ F .none (S.setCell hp ⟨vs.push v, _, q, ?_, by rw [Array.size_push]; omega⟩ fun b o hb e => (Heap.get?_update_ne _ _ _ _ hb).trans e) (List.prefix_refl _) (FLe.refl _)
  rw [Array.toList_push]; exact hr.append (.cons h2 .nil)
theorem cl_pop (hj : st[j]? = some (.list (xs ++ [p]))) : Cl P T lv (.builtin "list.pop") [.loc j] st p (st.set j (.list xs)) := by
  intro A sh ρ F rs G hA _ _ S hr Q hQ
  obtain ⟨_, rfl, h1⟩ := hr.one; obtain ⟨a, rfl, hp⟩ := h1.toLoc
  obtain ⟨vs, n, hv, hr, hz⟩ := S.list hp hj
  have e : vs.size = xs.length + 1 := by have := hr.length; rw [List.length_append, List.length_singleton, Array.length_toList] at this; exact this
  obtain ⟨v, ev, rv⟩ := hr.get (i := xs.length) (p := p) (by simp)
  rw [Array.getElem?_toList] at ev
  refine call_meets PySem.F.slot_list_pop ⟨_, hv, rfl⟩ PySem.F.entry_list_pop (PySem.F.args_list_pop_1 _) (PySem.MeetsSeq.list_pop_last a vs n v (by rw [e]; exact ev) (by rw [sizeLine_eq]; omega)) ⟨hv, ?_⟩
  have q := PySem.IsL.update hv (fun x => x.eraseIdxIfInBounds (vs.size - 1))
  refine hQ _ _ sh.toks ρ F rv (S.setCell hp ⟨_, _, q, ?_, ?_⟩ fun b o hb e => (Heap.get?_update_ne _ _ _ _ hb).trans e) (List.prefix_refl _) (FLe.refl _)
  · have := hr.take xs.length
    rw [List.take_left] at this
    have e2 : (vs.eraseIdxIfInBounds (vs.size - 1)).toList = vs.toList.take xs.length := by
      unfold Array.eraseIdxIfInBounds
      rw [dif_pos (by omega), Array.toList_eraseIdx, e]
      have hl : vs.toList.length = xs.length + 1 := by rw [Array.length_toList]; exact e
      rw [show xs.length + 1 - 1 = xs.length by omega, List.eraseIdx_eq_take_drop_succ, List.drop_eq_nil_of_le (by omega), List.append_nil]
    rw [e2]; exact this
  · unfold Array.eraseIdxIfInBounds
    rw [dif_pos (by omega), Array.size_eraseIdx]; omega
theorem cl_reverse (hj : st[j]? = some (.list xs)) : Cl P T lv (.builtin "list.reverse") [.loc j] st .none (st.set j (.list xs.reverse)) := by
  intro A sh ρ F rs G hA _ _ S hr Q hQ
  obtain ⟨_, rfl, h1⟩ := hr.one; obtain ⟨a, rfl, hp⟩ := h1.toLoc
  obtain ⟨vs, n, hv, hr, hz⟩ := S.list hp hj
  refine call_meets PySem.F.slot_list_reverse ⟨_, hv, rfl⟩ PySem.F.entry_list_reverse (PySem.F.args_list_reverse_1 _) (PySem.AutoSeq1.list_reverse_list_0 a vs n (by rw [sizeLine_eq]; omega)) ⟨hv, ?_⟩
  have q := PySem.IsL.update hv (fun x => x.reverse)
  refine hQ _ _ sh.toks ρ F .none (S.setCell hp ⟨_, _, q, ?_, by rw [Array.size_reverse]; exact hz⟩ fun b o hb e => (Heap.get?_update_ne _ _ _ _ hb).trans e) (List.prefix_refl _) (FLe.refl _)
  rw [Array.toList_reverse]; exact hr.reverse
end
end Mine
end
section
open PySem PySem.W PySem.Calls PyProof.Rows PySem.Builtin.Str
set_option Elab.async false
set_option autoImplicit false
set_option linter.all false
set_option maxRecDepth 100000
namespace Mine

section
variable {C : Cx} {lo : List (Option PV)} {st st1 st2 st3 : List Cell} {pos : Pos} {a b c r p : PV} {K : Out → Prop} {rest : List Stmt} {x : Str} {px : Pos} {body : List Stmt} {items xs : List PV} {j : Nat}

/-- a method of a list -/
theorem ev_meth0 {o : Expr} {name : Str} {apos : Pos} {id : String} {lv : Nat} (ho : Ev C lo st o (.loc j) st1) (hj : st1[j]? = some (.list xs)) (hc : Cl C.P C.T lv (.builtin id) [.loc j] st1 r st2) (hl : lv ≤ C.lv)
    (slot : Slot "list" name id) (ty : typeOf (.builtin id) = pure (.type "method_descriptor"))
    (hbase : attributeBase o name C.env (eval o C.env) = eval o C.env := by rfl) (hline : (apos.endLine == pos.line) = true := by rfl) : Ev C lo st (.Call (.Attribute o name apos) [] [] pos) r st2 := by
  refine .mk fun s ρ F S Q hQ => ?_
  refine Call_method0 hbase hline (ho.run s ρ F S _ fun v h1 t1 ρ1 F1 r1 S1 p1 f1 => ?_)
  obtain ⟨a, rfl, ha⟩ := r1.toLoc
  obtain ⟨vs, n, hv, _⟩ := S1.s.list ha hj
  refine ⟨"list", id, PySem.F.plainAttrs_list, slot, ty, ⟨_, hv, rfl⟩, (fun b e => by cases e; exact ⟨_, hv, rfl⟩), callWith_builtin rfl (evalArgs_nil3 ?_)⟩
  exact hc.use hl S1 (.cons r1 .nil) fun v h' tk ρ' F' rv S' p g => hQ v h' tk ρ' F' rv S' (p1.trans p) (f1.trans g)
theorem ev_meth1 {o e : Expr} {name : Str} {apos : Pos} {id : String} {lv : Nat} (ho : Ev C lo st o (.loc j) st1) (hj : st1[j]? = some (.list xs)) (he : Ev C lo st1 e p st2) (hc : Cl C.P C.T lv (.builtin id) [.loc j, p] st2 r st3) (hl : lv ≤ C.lv)
    (slot : Slot "list" name id) (ty : typeOf (.builtin id) = pure (.type "method_descriptor"))
    (hbase : attributeBase o name C.env (eval o C.env) = eval o C.env := by rfl) (hs : starEach [e] C.env = [(false, eval e C.env)] := by rfl) (hline : (apos.endLine == pos.line) = true := by rfl) : Ev C lo st (.Call (.Attribute o name apos) [e] [] pos) r st3 := by
  refine .mk fun s ρ F S Q hQ => ?_
  refine Call_method1 hbase hs hline (ho.run s ρ F S _ fun v h1 t1 ρ1 F1 r1 S1 p1 f1 => ?_)
  obtain ⟨a, rfl, ha⟩ := r1.toLoc
  obtain ⟨vs, n, hv, _⟩ := S1.s.list ha hj
  refine ⟨"list", id, PySem.F.plainAttrs_list, slot, ty, ⟨_, hv, rfl⟩, (fun b e => by cases e; exact ⟨_, hv, rfl⟩), callWith_builtin rfl (evalArgs_plain (spliced_cons (he.run _ ρ1 F1 S1 _ fun u h2 t2 ρ2 F2 r2 S2 p2 f2 => spliced_nil ?_)))⟩
  exact hc.use hl S2 (.cons (r1.mono p2 f2) (.cons r2 .nil)) fun v h' tk ρ' F' rv S' p g => hQ v h' tk ρ' F' rv S' ((p1.trans p2).trans p) ((f1.trans f2).trans g)
theorem ev_append {o e : Expr} {apos : Pos} (ho : Ev C lo st o (.loc j) st1) (he : Ev C lo st1 e p st2) (hj : st2[j]? = some (.list xs)) (hz : xs.length < 1000) (hj1 : ∃ ys, st1[j]? = some (.list ys))
    (hbase : attributeBase o "append" C.env (eval o C.env) = eval o C.env := by rfl) (hs : starEach [e] C.env = [(false, eval e C.env)] := by rfl) (hline : (apos.endLine == pos.line) = true := by rfl) :
    Ev C lo st (.Call (.Attribute o "append" apos) [e] [] pos) .none (st2.set j (.list (xs ++ [p]))) :=
  let ⟨_, hj1⟩ := hj1
  ev_meth1 (lv := 0) ho hj1 he (cl_append hj hz) (Nat.zero_le _) PySem.F.slot_list_append PySem.F.type_list_append hbase hs hline
theorem ev_pop {o : Expr} {apos : Pos} (ho : Ev C lo st o (.loc j) st1) (hj : st1[j]? = some (.list (xs ++ [p])))
    (hbase : attributeBase o "pop" C.env (eval o C.env) = eval o C.env := by rfl) (hline : (apos.endLine == pos.line) = true := by rfl) :
    Ev C lo st (.Call (.Attribute o "pop" apos) [] [] pos) p (st1.set j (.list xs)) :=
  ev_meth0 (lv := 0) ho hj (cl_pop hj) (Nat.zero_le _) PySem.F.slot_list_pop PySem.F.type_list_pop hbase hline
theorem ev_reverse {o : Expr} {apos : Pos} (ho : Ev C lo st o (.loc j) st1) (hj : st1[j]? = some (.list xs))
    (hbase : attributeBase o "reverse" C.env (eval o C.env) = eval o C.env := by rfl) (hline : (apos.endLine == pos.line) = true := by rfl) :
    Ev C lo st (.Call (.Attribute o "reverse" apos) [] [] pos) .none (st1.set j (.list xs.reverse)) :=
  ev_meth0 (lv := 0) ho hj (cl_reverse hj) (Nat.zero_le _) PySem.F.slot_list_reverse PySem.F.type_list_reverse hbase hline

theorem ev_rjust {o e : Expr} {apos : Pos} {s : Str} {i : Int} (ho : Ev C lo st o (.str s) st1) (he : Ev C lo st1 e (.int i) st2) (hp : PadOk i = true)
    (hbase : attributeBase o "rjust" C.env (eval o C.env) = eval o C.env := by rfl) (hs : starEach [e] C.env = [(false, eval e C.env)] := by rfl) (hline : (apos.endLine == pos.line) = true := by rfl) :
    Ev C lo st (.Call (.Attribute o "rjust" apos) [e] [] pos) (.str (Txt.rjust s i)) st2 := by
  refine .mk fun sh ρ F S Q hQ => ?_
  refine Call_method1 hbase hs hline (ho.run sh ρ F S _ fun v h1 t1 ρ1 F1 r1 S1 p1 f1 => ?_)
  obtain ⟨_, rfl⟩ := r1.toStr
  refine SB.rjust (he.run _ ρ1 F1 S1 _ fun u h2 t2 ρ2 F2 r2 S2 p2 f2 => ?_)
  obtain ⟨t, rfl⟩ := r2.toInt
  exact ⟨i, t, rfl, hp, fun t' k => hQ _ h2 k ρ2 F2 (.str _ _) S2 (p1.trans p2) (f1.trans f2)⟩
theorem ev_lower {o : Expr} {apos : Pos} {s : Str} (ho : Ev C lo st o (.str s) st1) (hf : tooLong (Txt.lower s).length = false)
    (hbase : attributeBase o "lower" C.env (eval o C.env) = eval o C.env := by rfl) (hline : (apos.endLine == pos.line) = true := by rfl) :
    Ev C lo st (.Call (.Attribute o "lower" apos) [] [] pos) (.str (Txt.lower s)) st1 := by
  refine .mk fun sh ρ F S Q hQ => ?_
  refine Call_method0 hbase hline (ho.run sh ρ F S _ fun v h1 t1 ρ1 F1 r1 S1 p1 f1 => ?_)
  obtain ⟨_, rfl⟩ := r1.toStr
  exact SB.lower hf (hQ _ h1 _ ρ1 F1 (.str _ _) S1 p1 f1)
theorem Reps.strs {ρ : List Addr} {F : Frz} : ∀ {vs : List Value} {ts : List Str}, Reps ρ F vs (ts.map .str) → ∃ l : List (Str × Tok), vs = strValues l ∧ l.map (·.1) = ts
  | _, [], .nil => ⟨[], rfl, rfl⟩
  | _, t :: ts, .cons h r => by
    obtain ⟨u, rfl⟩ := h.toStr
    obtain ⟨l, rfl, rfl⟩ := Reps.strs r
    exact ⟨(t, u) :: l, rfl, rfl⟩
theorem ev_join {o e : Expr} {apos : Pos} {s : Str} {ts : List Str} (ho : Ev C lo st o (.str s) st1) (he : Ev C lo st1 e (.loc j) st2) (hj : st2[j]? = some (.list (ts.map .str))) (hok : JoinOk s ts = true)
    (hbase : attributeBase o "join" C.env (eval o C.env) = eval o C.env := by rfl) (hs : starEach [e] C.env = [(false, eval e C.env)] := by rfl) (hline : (apos.endLine == pos.line) = true := by rfl) :
    Ev C lo st (.Call (.Attribute o "join" apos) [e] [] pos) (.str (Txt.join s ts)) st2 := by
  refine .mk fun sh ρ F S Q hQ => ?_
  refine Call_method1 hbase hs hline (ho.run sh ρ F S _ fun v h1 t1 ρ1 F1 r1 S1 p1 f1 => ?_)
  obtain ⟨_, rfl⟩ := r1.toStr
  refine SB.join (he.run _ ρ1 F1 S1 _ fun u h2 t2 ρ2 F2 r2 S2 p2 f2 => ?_)
  obtain ⟨a, rfl, ha⟩ := r2.toLoc
  obtain ⟨vs, n, hv, hr, hz⟩ := S2.s.list ha hj
  obtain ⟨l, el, et⟩ := hr.strs
  have e : vs = (strValues l).toArray := by rw [← el, Array.toArray_toList]
  exact ⟨a, l, rfl, ⟨_, hv, rfl, n, by rw [← e]⟩, ts, et, hok, fun t' k => hQ _ h2 k ρ2 F2 (.str _ _) S2 (p1.trans p2) (f1.trans f2)⟩

/-- an item -/
noncomputable def ItS (P : Pg) (o i r : PV) (st : List Cell) : Prop :=
  ∀ (A : Around) (s : Shared) (ρ : List Addr) (F : Frz) (v u : Value), A.handled = none → SimS P st ρ F s.heap → Rep ρ F v o → Rep ρ F u i → ∀ Q : Value → Shared → Prop,
    (∀ z tk, Rep ρ F z r → Q z { s with toks := tk }) → (∃ T id, s.TypeIs v T ∧ typeLookup (.type T) "__getitem__" = pure (some (.builtin id))) ∧ wpAny (model P.prog P.w) A (getItem v u) Q NoE s
theorem ev_sub {value slice : Expr} (ho : Ev C lo st value a st1) (hi : Ev C lo st1 slice b st2) (hs : ItS C.P a b r st2)
    (hq : ∀ (o : Value) (i : Value), subscripted slice false o i = operate [o, i] (getItem o i) := by intro _ _; with_unfolding_all rfl) : Ev C lo st (.Subscript value slice pos) r st2 := by
  refine .mk fun s ρ F S Q hQ => ?_
  refine Subscript_ (ho.run s ρ F S _ fun v h1 t1 ρ1 F1 r1 S1 p1 f1 => hi.run _ ρ1 F1 S1 _ fun u h2 t2 ρ2 F2 r2 S2 p2 f2 => ?_)
  obtain ⟨⟨T, id, hT, hl⟩, hg⟩ := hs C.A (Rest (Rest s h1 t1) h2 t2) ρ2 F2 v u S.good.hd S2.s (r1.mono p2 f2) r2 _ fun z tk rz => hQ z h2 tk ρ2 F2 rz S2 (p1.trans p2) (f1.trans f2)
  exact tail_any hT hl hg (hq v u)
theorem i_list {P : Pg} {i : Int} (hj : st[j]? = some (.list xs)) (h0 : 0 ≤ i) (hx : xs[i.toNat]? = some p) : ItS P (.loc j) (.int i) p st := by
  intro A s ρ F v u hA S hv hu Q hQ
  obtain ⟨a, rfl, ha⟩ := hv.toLoc
  obtain ⟨t, rfl⟩ := hu.toInt
  obtain ⟨vs, n, hv, hr, hz⟩ := S.list ha hj
  obtain ⟨y, ey, ry⟩ := hr.get hx
  rw [Array.getElem?_toList] at ey
  have hlt : i.toNat < vs.size := by
    rcases Nat.lt_or_ge i.toNat vs.size with q | q
    · exact q
    · rw [Array.getElem?_eq_none q] at ey; cases ey
  have hl : s.heap.IsList a vs := ⟨_, hv, rfl, n, rfl⟩
  exact ⟨⟨"list", _, hl.typeIs, slot_list_getitem.lookup⟩, wpAny_getItem_list hl h0 (by omega) ey (hQ _ s.toks ry)⟩
theorem i_listneg {P : Pg} {i : Int} (hj : st[j]? = some (.list xs)) (h0 : i < 0) (h1 : -(xs.length : Int) ≤ i) (hx : xs[(i + xs.length).toNat]? = some p) : ItS P (.loc j) (.int i) p st := by
  intro A s ρ F v u hA S hv hu Q hQ
  obtain ⟨a, rfl, ha⟩ := hv.toLoc
  obtain ⟨t, rfl⟩ := hu.toInt
  obtain ⟨vs, n, hv, hr, hz⟩ := S.list ha hj
  obtain ⟨y, ey, ry⟩ := hr.get hx
  rw [Array.getElem?_toList] at ey
  have e : vs.size = xs.length := by rw [← hr.length, Array.length_toList]
  have hl : s.heap.IsList a vs := ⟨_, hv, rfl, n, rfl⟩
  exact ⟨⟨"list", _, hl.typeIs, slot_list_getitem.lookup⟩, wpAny_getItem_list_neg hl h0 (by omega) (by omega) (by rw [e]; exact ey) (hQ _ s.toks ry)⟩
theorem i_tup {P : Pg} {i : Int} {l : List PV} (h0 : 0 ≤ i) (hi : i < 1000) (hx : l[i.toNat]? = some p) : ItS P (.tup l) (.int i) p st := by
  intro A s ρ F v u hA S hv hu Q hQ
  obtain ⟨a, vs, rfl, hf, hr⟩ := hv.toTup
  obtain ⟨t, rfl⟩ := hu.toInt
  obtain ⟨y, ey, ry⟩ := hr.get hx
  have ho := S.fin _ _ hf
  have hl : IsTup s.heap a vs.toArray := ⟨_, ho, rfl, 0, rfl⟩
  have hlt : i.toNat < vs.length := by
    rcases Nat.lt_or_ge i.toNat vs.length with q | q
    · exact q
    · rw [List.getElem?_eq_none q] at ey; cases ey
  refine ⟨⟨"tuple", _, hl.typeIs, PySem.F.slot_tuple_getitem.lookup⟩, PyProof.Rows.getItem_tuple hl (by omega) (by omega) (j := i.toNat) ?_ (by simpa using ey) (hQ _ s.toks ry)⟩
  unfold seqIndex?
  rw [List.size_toArray]
  have h3 : ¬ i < 0 := by omega
  simp [h3, h0]; omega
theorem i_str {P : Pg} {i : Int} {s : Str} (hr : fitsSsize i = true) (h1 : -(s.length : Int) ≤ i) (h2 : i < s.length) : ItS P (.str s) (.int i) (.str (Txt.item s i)) st := by
  intro A sh ρ F v u hA S hv hu Q hQ
  obtain ⟨t, rfl⟩ := hv.toStr
  obtain ⟨t', rfl⟩ := hu.toInt
  refine ⟨⟨"str", _, typeIs_str _ _ _, PySem.F.slot_str_getitem.lookup⟩, ?_⟩
  obtain ⟨T, id, _, _, hg⟩ := (SB.item (prog := P.prog) (w := P.w) (A := A) (E := NoE) (t := t) (u := t') hr (charAt_isSome h1 h2) (hQ (.str (Txt.item s i) sh.toks) (sh.toks + 1) (.str _ _)))
  exact hg
end
end Mine
end
section
open PySem PySem.W PySem.Calls PyProof.Rows PySem.Builtin.Str
set_option Elab.async false
set_option autoImplicit false
set_option linter.all false
set_option maxRecDepth 100000
namespace Mine

section
variable {C : Cx} {lo : List (Option PV)} {st st1 st2 st3 : List Cell} {pos : Pos} {a b c r p : PV} {K : Out → Prop} {rest : List Stmt} {x : Str} {px : Pos} {body : List Stmt} {items xs : List PV} {j : Nat}

theorem Sim.grow {ρ : List Addr} {F : Frz} {h h' : Heap} (S : Sim C lo st ρ F h) (hk : ∀ b o, h.get? b = some o → h'.get? b = some o) : Sim C lo st ρ F h' := S.keep fun a o e _ => hk a o e
theorem keptAll (h : Heap) : KeptH (fun h' => ∀ b o, h.get? b = some o → h'.get? b = some o) := fun h' ob hp b o e => Heap.get?_push_of_some _ (hp b o e)

/-- s[i:j] of a text -/
theorem ev_slice {value e1 e2 : Expr} {p' : Pos} {s : Str} {i k : Int} (ho : Ev C lo st value (.str s) st1) (h1 : Ev C lo st1 e1 (.int i) st2) (h2 : Ev C lo st2 e2 (.int k) st3) (hz : s.length ≤ 1000000)
    (hq : ∀ (o : Value) (i : Value), subscripted (.Slice (some e1) (some e2) none p') false o i = operate [i, o] (getItem o i) := by intro _ _; with_unfolding_all rfl)
    (ht : ∀ (o r : Value), letTemporaryGo value o r = pure () := by intro _ _; with_unfolding_all rfl) :
    Ev C lo st (.Subscript value (.Slice (some e1) (some e2) none p') pos) (.str (Txt.slice s (some i) (some k))) st3 := by
  refine .mk fun sh ρ F S Q hQ => ?_
  refine Subscript_ (ho.run sh ρ F S _ fun v h1' t1 ρ1 F1 r1 S1 p1 f1 => wpAny_Slice (evalPart_some_step (h1.run _ ρ1 F1 S1 _ fun u h2' t2 ρ2 F2 r2 S2 p2 f2 => evalPart_some_step (h2.run _ ρ2 F2 S2 _ fun w h3' t3 ρ3 F3 r3 S3 p3 f3 => evalPart_none_step ?_))))
  obtain ⟨t, rfl⟩ := r1.toStr
  obtain ⟨ti, rfl⟩ := r2.toInt
  obtain ⟨tk, rfl⟩ := r3.toInt
  refine tail_of_ItemOn (SBH.sliceItem_ss (s := Rest sh h3' t3) (keptAll h3') (fun _ _ e => e) (fun h' t' k hp => ?_) (by rw [sizeLine_eq]; omega)) (hq _ _) (ht _)
  exact hQ _ h' k ρ3 F3 (.str _ _) (S3.grow hp) ((p1.trans p2).trans p3) ((f1.trans f2).trans f3)

/-- l[lo:hi] of a list: a new list -/
noncomputable def PartIs (C : Cx) (lo : List (Option PV)) (st : List Cell) (e : Option Expr) (i : Option Int) : Prop := match e, i with
  | none, none => True
  | some e, some i => Ev C lo st e (.int i) st
  | _, _ => False
theorem PartIs.use {e : Option Expr} {i : Option Int} (h : PartIs C lo st e i) {s : Shared} {ρ : List Addr} {F : Frz} (S : Sim C lo st ρ F s.heap) {Q : Value → Shared → Prop}
    (hQ : ∀ v h' tk ρ' F', IsPart v i → Sim C lo st ρ' F' h' → ρ <+: ρ' → FLe F F' → Q v (Rest s h' tk)) : wpAny (model C.P.prog C.P.w) C.A (evalPart e C.env) Q NoE s := by
  cases e with
  | none => cases i with
    | none => exact evalPart_none_step (hQ _ s.heap s.toks ρ F .none S (List.prefix_refl _) (FLe.refl _))
    | some i => exact h.elim
  | some e => cases i with
    | none => exact h.elim
    | some i => exact evalPart_some_step (h.run s ρ F S _ fun v h' tk ρ' F' r S' p f => by obtain ⟨t, rfl⟩ := r.toInt; exact hQ _ h' tk ρ' F' (.int _ _) S' p f)
theorem ev_lslice {value : Expr} {e1 e2 : Option Expr} {p' : Pos} {i k : Option Int} {ys : List PV} (ho : Ev C lo st value (.loc j) st1) (h1 : PartIs C lo st1 e1 i) (h2 : PartIs C lo st1 e2 k) (hj : st1[j]? = some (.list xs))
    (hy : ∀ (ρ : List Addr) (F : Frz) (vs : Array Value), Reps ρ F vs.toList xs → Reps ρ F (slicePick vs i k none).toList ys)
    (ht : ∀ (o r : Value), letTemporaryGo value o r = pure () := by intro _ _; rfl) :
    Ev C lo st (.Subscript value (.Slice e1 e2 none p') pos) (.loc st1.length) (st1 ++ [.list ys]) := by
  refine .mk fun sh ρ F S Q hQ => ?_
  refine wpAny_Subscript_list_slice (ho.run sh ρ F S _ fun v h1' t1 ρ1 F1 r1 S1 p1 f1 => h1.use S1 fun u h2' t2 ρ2 F2 r2 S2 p2 f2 => h2.use S2 fun w h3' t3 ρ3 F3 r3 S3 p3 f3 => ?_) ht
  obtain ⟨a, rfl, ha⟩ := r1.toLoc
  obtain ⟨vs, n, hv, hr, hz⟩ := S3.s.list (pre_get (p2.trans p3) ha) hj
  refine ⟨a, vs, i, k, rfl, ⟨_, hv, rfl, n, rfl⟩, by rw [sizeLine_eq]; omega, r2, r3, ?_⟩
  have pre : ρ3 <+: ρ3 ++ [h3'.objs.size + 1] := List.prefix_append _ _
  have S4 := S3.addCell (a := h3'.objs.size + 1) (c := .list ys) (Heap.get?_none_of_le (Nat.le_succ _)) (h' := (h3'.push { cls := .type "slice", data := .fields #[u, w, .none] }).push (listOf (slicePick vs i k none) 0))
    ⟨_, 0, by have := Heap.get?_push_size (h3'.push { cls := .type "slice", data := .fields #[u, w, .none] }) (o := listOf (slicePick vs i k none) 0) rfl; rw [Heap.size_push] at this; exact this, (hy ρ3 F3 vs hr).mono pre (FLe.refl _), Nat.le_trans (slicePick_size_le ..) hz⟩
    (fun b q e => Heap.get?_push_of_some _ (Heap.get?_push_of_some _ e))
  refine hQ _ _ _ (ρ3 ++ [h3'.objs.size + 1]) F3 (.loc ?_) S4 (((p1.trans p2).trans p3).trans pre) ((f1.trans f2).trans f3)
  rw [List.getElem?_append_right (by rw [S3.s.len]; exact Nat.le_refl _), S3.s.len, Nat.sub_self]; rfl
theorem pick_from {ρ : List Addr} {F : Frz} {n : Nat} (vs : Array Value) (h : Reps ρ F vs.toList xs) : Reps ρ F (slicePick vs (some (n : Int)) none none).toList (xs.drop n) := by
  rw [slicePick_from', List.toList_toArray]; exact h.drop n
theorem pick_upto {ρ : List Addr} {F : Frz} {n : Nat} (vs : Array Value) (h : Reps ρ F vs.toList xs) : Reps ρ F (slicePick vs none (some (n : Int)) none).toList (xs.take n) := by
  rw [slicePick_upto', List.toList_toArray]; exact h.take n
theorem pick_last {ρ : List Addr} {F : Frz} (vs : Array Value) (h : Reps ρ F vs.toList xs) : Reps ρ F (slicePick vs none (some (-1)) none).toList (xs.take (xs.length - 1)) := by
  rw [show (-1 : Int) = -((1 : Nat) : Int) by rfl, slicePick_butLast _ _ (Nat.le_refl _), List.toList_toArray, ← h.length, Array.length_toList]; exact h.take _

theorem ev_neg {e : Expr} {i : Int} (he : Ev C lo st e (.int i) st1) : Ev C lo st (.UnaryOp .USub e pos) (.int (-i)) st1 := by
  refine .mk fun s ρ F S Q hQ => ?_
  refine wpAny_UnaryOp (he.run s ρ F S _ fun v h1 t1 ρ1 F1 r1 S1 p1 f1 => ?_)
  obtain ⟨t, rfl⟩ := r1.toInt
  exact PyProof.Rows.neg_int (hQ _ h1 _ ρ1 F1 (.int _ _) S1 p1 f1)

theorem ev_ifexp {t e1 e2 : Expr} {z : Bool} (ht : Tst C lo st t z st1) (h1 : z = true → Ev C lo st1 e1 r st2) (h2 : z = false → Ev C lo st1 e2 r st2) : Ev C lo st (.IfExp t e1 e2 pos) r st2 := by
  refine .mk fun s ρ F S Q hQ => ?_
  refine wpAny_IfExp (ht.run s ρ F S _ fun h' tk ρ1 F1 S1 p1 f1 => ?_)
  cases z with
  | true => exact (h1 rfl).run _ ρ1 F1 S1 _ fun v h2' tk2 ρ2 F2 r2 S2 p2 f2 => hQ v h2' tk2 ρ2 F2 r2 S2 (p1.trans p2) (f1.trans f2)
  | false => exact (h2 rfl).run _ ρ1 F1 S1 _ fun v h2' tk2 ρ2 F2 r2 S2 p2 f2 => hQ v h2' tk2 ρ2 F2 r2 S2 (p1.trans p2) (f1.trans f2)

/-- a test of a value -/
theorem tst_bool {e : Expr} {z : Bool} (he : Ev C lo st e (.bool z) st1) (hq : isTrue e C.env (eval e C.env) = (do let v ← eval e C.env; standAt e.pos; holding [v] (truthy v)) := by rfl) : Tst C lo st e z st1 := by
  refine .mk fun s ρ F S Q hQ => ?_
  refine wpAny_isTrue_value (he.run s ρ F S _ fun v h1 t1 ρ1 F1 r1 S1 p1 f1 => ?_) hq
  cases r1.toBool
  exact wpAny_truthy_bool (hQ h1 t1 ρ1 F1 S1 p1 f1)
theorem tst_int {e : Expr} {i : Int} (he : Ev C lo st e (.int i) st1) (hq : isTrue e C.env (eval e C.env) = (do let v ← eval e C.env; standAt e.pos; holding [v] (truthy v)) := by rfl) : Tst C lo st e (i != 0) st1 := by
  refine .mk fun s ρ F S Q hQ => ?_
  refine wpAny_isTrue_value (he.run s ρ F S _ fun v h1 t1 ρ1 F1 r1 S1 p1 f1 => ?_) hq
  obtain ⟨t, rfl⟩ := r1.toInt
  exact PySem.P.truthy_int (hQ h1 t1 ρ1 F1 S1 p1 f1)
/-- and, or in a test -/
structure TstAll (C : Cx) (lo : List (Option PV)) (st : List Cell) (op : BoolOp) (es : List Expr) (z : Bool) (st' : List Cell) : Prop where
  run :
  ∀ (s : Shared) (ρ : List Addr) (F : Frz), Sim C lo st ρ F s.heap → ∀ Q : Bool → Shared → Prop,
    (∀ h' tk ρ' F', Sim C lo st' ρ' F' h' → ρ <+: ρ' → FLe F F' → Q z (Rest s h' tk)) → wpAny (model C.P.prog C.P.w) C.A (allTrue op es C.env) Q NoE s
theorem tst_boolop {op : BoolOp} {es : List Expr} {z : Bool} (h : TstAll C lo st op es z st1) : Tst C lo st (.BoolOp op es pos) z st1 :=
  .mk fun s ρ F S Q hQ => wpAny_isTrue_BoolOp (h.run s ρ F S Q hQ)
theorem and_nil : TstAll C lo st .And [] true st := .mk fun s ρ F S Q hQ => wpAny_allTrue_And_nil (hQ s.heap s.toks ρ F S (List.prefix_refl _) (FLe.refl _))
theorem or_nil : TstAll C lo st .Or [] false st := .mk fun s ρ F S Q hQ => wpAny_allTrue_Or_nil (hQ s.heap s.toks ρ F S (List.prefix_refl _) (FLe.refl _))
theorem and_cons {e : Expr} {es : List Expr} {y z : Bool} (h : Tst C lo st e y st1) (h1 : y = true → TstAll C lo st1 .And es z st2) (h2 : y = false → z = false ∧ st2 = st1) : TstAll C lo st .And (e :: es) z st2 := by
  refine .mk fun s ρ F S Q hQ => ?_
  refine wpAny_allTrue_And_cons (h.run s ρ F S _ fun h' tk ρ1 F1 S1 p1 f1 => ?_)
  cases y with
  | true => exact (h1 rfl).run _ ρ1 F1 S1 _ fun h2' tk2 ρ2 F2 S2 p2 f2 => hQ h2' tk2 ρ2 F2 S2 (p1.trans p2) (f1.trans f2)
  | false => obtain ⟨rfl, rfl⟩ := h2 rfl; exact hQ h' tk ρ1 F1 S1 p1 f1
theorem or_cons {e : Expr} {es : List Expr} {y z : Bool} (h : Tst C lo st e y st1) (h1 : y = false → TstAll C lo st1 .Or es z st2) (h2 : y = true → z = true ∧ st2 = st1) : TstAll C lo st .Or (e :: es) z st2 := by
  refine .mk fun s ρ F S Q hQ => ?_
  refine wpAny_allTrue_Or_cons (h.run s ρ F S _ fun h' tk ρ1 F1 S1 p1 f1 => ?_)
  cases y with
  | false => exact (h1 rfl).run _ ρ1 F1 S1 _ fun h2' tk2 ρ2 F2 S2 p2 f2 => hQ h2' tk2 ρ2 F2 S2 (p1.trans p2) (f1.trans f2)
  | true => obtain ⟨rfl, rfl⟩ := h2 rfl; exact hQ h' tk ρ1 F1 S1 p1 f1

/-- names bound in order -/
inductive Binds (C : Cx) : List Expr → List PV → List (Option PV) → List (Option PV) → Prop
  | nil {lo : List (Option PV)} : Binds C [] [] lo lo
  | cons {x : Str} {p : Pos} {es : List Expr} {q : PV} {qs : List PV} {lo lo' : List (Option PV)} (i : Nat) : C.keys[i]? = some x → Binds C es qs (lo.set i (some q)) lo' → Binds C (.Name x p :: es) (q :: qs) lo lo'
theorem Binds.use {es : List Expr} {qs : List PV} {lo lo' : List (Option PV)} (h : Binds C es qs lo lo') : ∀ {s : Shared} {ρ : List Addr} {F : Frz} {vs : List Value}, Sim C lo st ρ F s.heap → Reps ρ F vs qs → ∀ {Q : Unit → Shared → Prop},
    (∀ h' tk, Sim C lo' st ρ F h' → Q () (Rest s h' tk)) → wpAny (model C.P.prog C.P.w) C.A (assignInOrder ((assignEach es C.env).map (·.2)) vs) Q NoE s := by
  induction h with
  | nil => intro s ρ F vs S hr Q hQ; exact assignInOrder_nil (hQ s.heap s.toks S)
  | cons i hx _ ih =>
    intro s ρ F vs S hr Q hQ
    cases hr with
    | cons h1 h2 =>
      refine assignInOrder_cons ?_
      refine wpAny_assign_Name (S.storeName hx h1 fun h' tk S' => ?_)
      exact ih S' h2 fun h2' tk2 S2 => hQ h2' tk2 S2
theorem Binds.len {es : List Expr} {qs : List PV} {lo lo' : List (Option PV)} (h : Binds C es qs lo lo') : (assignEach es C.env).length = qs.length ∧ (assignEach es C.env).findIdx? (·.1) = none := by
  induction h with
  | nil => exact ⟨rfl, rfl⟩
  | cons i hx _ ih =>
    obtain ⟨a, b⟩ := ih
    refine ⟨by show (_ :: _ : List _).length = _; rw [List.length_cons, a]; rfl, ?_⟩
    show List.findIdx? _ ((false, _) :: _) = none
    rw [List.findIdx?_cons, b]; rfl
theorem ex_unpack {es : List Expr} {k : Nat} {tp : Pos} {e : Expr} {qs : List PV} {lo' : List (Option PV)} (he : Ev C lo st e (.tup qs) st1) (hb : Binds C es qs lo lo') (k' : Ex C lo' st1 rest K)
    (hs : swapsWithSole [.Tuple es k tp] e pos.line C.env = pure false := by rfl) (hw : swappedStores [.Tuple es k tp] e C.env = pure none := by rfl) : Ex C lo st (.Assign [.Tuple es k tp] e pos :: rest) K := by
  refine ex_cons fun s ρ F S Q hQ => Assign_Tuple (he.run s ρ F S _ fun v h1 t1 ρ1 F1 r1 S1 p1 f1 => ?_) hs hw
  obtain ⟨a, vs, rfl, hf, hr⟩ := r1.toTup
  obtain ⟨l1, l2⟩ := hb.len
  have ht : IsTup h1 a vs.toArray := ⟨_, S1.s.fin _ _ hf, rfl, 0, rfl⟩
  refine assign_Tuple_tuple S.good.hd ht (by rw [l1, List.size_toArray, hr.length]) l2 fun h' hk => ?_
  have S2 : Sim C lo st1 ρ1 F1 h' := S1.keep fun b o e q => hk b o (fun z => by rw [z] at e; rw [get_size] at e; cases e) e
  rw [List.toList_toArray]
  exact hb.use (s := Rest (Rest s h1 t1) h' t1) S2 hr fun h2 tk S3 => hQ (.next _ _) k' _ h2 tk ρ1 F1 ⟨rfl, S3⟩ p1 f1

/-- l[i] = e -/
theorem ex_setitem {o i e : Expr} {p' : Pos} {n : Int} (he : Ev C lo st e p st1) (ho : Ev C lo st1 o (.loc j) st2) (hi : Ev C lo st2 i (.int n) st3) (hj : st3[j]? = some (.list xs)) (h0 : 0 ≤ n) (hn : n < xs.length)
    (k : Ex C lo (st3.set j (.list (xs.set n.toNat p))) rest K) (hs : swapsWith e (some (.Subscript o i p')) pos.line C.env = pure false := by rfl) : Ex C lo st (.Assign [.Subscript o i p'] e pos :: rest) K := by
  refine ex_cons fun s ρ F S Q hQ => wpAny_Assign_Subscript (he.run s ρ F S _ fun v h1 t1 ρ1 F1 r1 S1 p1 f1 => ho.run _ ρ1 F1 S1 _ fun u h2 t2 ρ2 F2 r2 S2 p2 f2 => hi.run _ ρ2 F2 S2 _ fun z h3 t3 ρ3 F3 r3 S3 p3 f3 => ?_) hs
  obtain ⟨a, rfl, ha⟩ := r2.toLoc
  obtain ⟨t, rfl⟩ := r3.toInt
  have ha3 := pre_get p3 ha
  obtain ⟨vs, m, hv, hr, hz⟩ := S3.s.list ha3 hj
  have e : vs.size = xs.length := by rw [← hr.length, Array.length_toList]
  have hl : h3.IsList a vs := ⟨_, hv, rfl, m, rfl⟩
  -- the store, with the object's very shape
  have key : ∀ {Q : Unit → Shared → Prop}, (Q () { (Rest (Rest (Rest s h1 t1) h2 t2) h3 t3) with heap := h3.update a (Obj.mapSeq (·.setIfInBounds n.toNat v)) }) → wpAny (model C.P.prog C.P.w) C.A (setItem (.ref a) (.int n t) v) Q NoE (Rest (Rest (Rest s h1 t1) h2 t2) h3 t3) := by
    intro Q hQ
    unfold setItem
    try with_reducible refine wpAny_holding ?_
    first | refine wpAny_bind (wpAny_pure ?_) | skip
    refine wpAny_bind (wpAny_sequenceKey (hl.typeIs (s := Rest (Rest (Rest s h1 t1) h2 t2) h3 t3)) (by decide) ?_)
    refine wpAny_bind (wpAny_callSpecial?_slot (name := Str.ofString "__setitem__") (hl.typeIs (s := Rest (Rest (Rest s h1 t1) h2 t2) h3 t3)) slot_list_setitem
      (wpAny_call_entry slot_list_setitem (hl.typeIs (s := Rest (Rest (Rest s h1 t1) h2 t2) h3 t3)) entry_list_setitem ?_ (args_list_setitem _ _ _)))
    show wpAny _ _ (Builtin.List.listSubscript? (.int n t) >>= _) _ _ _
    refine wpAny_bind (wpAny_listSubscript_int (fitsIndex_of h0 (by omega)) ?_)
    obtain ⟨q, rfl⟩ := Int.eq_ofNat_of_zero_le h0
    have hq : q < vs.size := by omega
    have hx' : vs[q]? = some vs[q] := Array.getElem?_eq_getElem hq
    show wpAny _ _ ((seqItemAt a q >>= fun r => pure (r.map (q, ·))) >>= _) _ _ _
    refine wpAny_bind (wpAny_bind (wpAny_seqItemAt hv rfl (wpAny_pure ?_)))
    rw [hx']
    show wpAny _ _ (setSeqItemAt a q v >>= _) _ _ _
    refine wpAny_bind (wpAny_setSeqItemAt hv rfl ?_)
    first
      | exact wpAny_bind (wpAny_pure (wpAny_pure ⟨.none, rfl, wpAny_pure hQ⟩))
      | exact wpAny_pure ⟨.none, rfl, wpAny_pure hQ⟩
  refine key ?_
  have q := PySem.IsL.update hv (fun x => x.setIfInBounds n.toNat v)
  have S4 : Sim C lo (st3.set j (.list (xs.set n.toNat p))) ρ3 F3 (h3.update a (Obj.mapSeq (·.setIfInBounds n.toNat v))) := S3.setCell ha3 ⟨_, _, q, by
    rw [Array.toList_setIfInBounds]; exact Reps.set (r1.mono (p2.trans p3) (f2.trans f3)) hr _, by rw [Array.size_setIfInBounds]; exact hz⟩ fun b o hb e => (Heap.get?_update_ne _ _ _ _ hb).trans e
  exact hQ (.next _ _) k _ _ t3 ρ3 F3 ⟨rfl, S4⟩ ((p1.trans p2).trans p3) ((f1.trans f2).trans f3)
end
end Mine
end
section
open PySem PySem.W PySem.Calls PyProof.Rows PySem.Builtin.Str
set_option Elab.async false
set_option autoImplicit false
set_option linter.all false
set_option maxRecDepth 100000
namespace Mine

section
variable {C : Cx} {lo : List (Option PV)} {st st1 st2 st3 : List Cell} {pos : Pos} {a b c r p : PV} {K : Out → Prop} {rest : List Stmt} {x : Str} {px : Pos} {body : List Stmt} {items xs : List PV} {j : Nat}

/-- what an expression hands a for -/
structure It (C : Cx) (lo : List (Option PV)) (st : List Cell) (iter : Expr) (items : List PV) (st1 : List Cell) : Prop where
  run :
  ∀ (s : Shared) (ρ : List Addr) (F : Frz), Sim C lo st ρ F s.heap → ∀ Q : Value → Shared → Prop,
    (∀ (h' : Heap) (tk : Nat) (ρ' : List Addr) (F' : Frz) (I : Addr) (fp : List Addr) (n : Nat) (P : Nat → Value → Prop) (St : Nat → Heap → Prop), Sim C lo st1 ρ' F' h' → ρ <+: ρ' → FLe F F' →
      Walks C.P.prog C.P.w C.A I fp [I] n P St → (∀ b ∈ fp, b = I ∨ (F' b).isSome = true) → F' I = none → I ∉ ρ' → I ≠ C.env.locals → items.length = n → St 0 h' →
      (∀ (i : Nat) (h : Heap), St i h → ∃ o, h.get? I = some o ∧ NotData o) → (∀ (k : Nat) (p : PV), items[k]? = some p → ∀ v, P k v → Rep ρ' F' v p) → Q (.ref I) (Rest s h' tk)) →
    wpAny (model C.P.prog C.P.w) C.A (eval iter C.env) (fun v s1 => wpAny (model C.P.prog C.P.w) C.A (pyIter v) Q NoE s1) NoE s
theorem ex_for {iter : Expr} (hi : It C lo st iter items st1) (h : Fo C lo st1 x px body items (seqK C rest K)) (hs : ∀ x, foldedSetIterable iter C.env x = pure x := by intro _; rfl) :
    Ex C lo st (.For (.Name x px) iter body [] pos :: rest) K := by
  refine ex_cons fun s ρ F S Q hQ => wpAny_For (wpAny_mono (hi.run s ρ F S _ fun h' tk ρ' F' I fp n P St S' p fl W hfp hFI hI hL hn hst hob hP => ?_) (fun _ _ x => wpAny_mono x (fun _ _ y => y) fun _ _ y => y) fun _ _ x => x) hs
  exact h (Rest s h' tk) ρ' F' I fp n 0 P St S' W hfp hFI hI hL (by omega) hst hob (fun k q hk v hv => hP k q hk v (by simpa using hv)) _ fun o ko f h2 tk2 ρ2 F2 os p2 g2 => hQ o ko f h2 tk2 ρ2 F2 os (p.trans p2) (fl.trans g2)

theorem notData_of {o : Obj} {T : String} (hc : o.cls = .type T) (h : T ≠ "tuple") : NotData o :=
  ⟨fun vs e => (by rw [e] at hc; injection hc with q; exact h q.symm), fun C d e => (by rw [e] at hc; cases hc)⟩
theorem range_not {h : Heap} {I : Addr} {a b c : Int} (e : IsRangeIter h I a b c) : ∃ o, h.get? I = some o ∧ NotData o := ⟨_, e, notData_type (by decide)⟩

noncomputable def upto (n : Nat) : List PV := (List.range n).map fun (i : Nat) => PV.int (i : Int)
theorem it_range {f e : Expr} {n : Int} (hf : Ev C lo st f (.val (.type "range")) st) (he : Ev C lo st e (.int n) st1) (h0 : 0 ≤ n) (h1 : n ≤ 1000000)
    (hq : starEach [e] C.env = [(false, eval e C.env)] := by rfl)
    (hc : eval (.Call f [e] [] pos) C.env = (do callWith pos (← eval f C.env) [] (backTo pos (starEach [e] C.env)) (backToKw pos (keywordEach [] C.env))) := by rfl) :
    It C lo st (.Call f [e] [] pos) (upto n.toNat) st1 := by
  refine .mk fun s ρ F S Q hQ => ?_
  refine Call_ (hf.run s ρ F S _ fun v h1' t1 ρ1 F1 r1 S1 p1 f1 => ?_) hc
  cases r1.toVal
  rw [hq]
  refine PyProof.Rows.callWith_type rfl (evalArgs_plain (spliced_cons (he.run _ ρ1 F1 S1 _ fun u h2 t2 ρ2 F2 r2 S2 p2 f2 => spliced_nil ?_)))
  obtain ⟨t, rfl⟩ := r2.toInt
  refine call_range_1 ?_
  refine wpAny_pyIter_range (IsRange.new ..) (small_one (by decide) (by decide) (by omega) (by omega)) ?_
  have S3 := S2.grow fun b o e => Heap.get?_push_of_some (h := h2) { cls := .type "range", data := .fields #[.int 0 t2, .int n t, .int 1 (t2 + 1)] } e
  have fr := S3.fresh (get_size (h := h2.push { cls := .type "range", data := .fields #[.int 0 t2, .int n t, .int 1 (t2 + 1)] }))
  have S4 := S3.grow fun b o e => Heap.get?_push_of_some { cls := .type "range_iterator", data := .fields #[rawInt 0, rawInt (Builtin.Range.rangeSize 0 n 1), rawInt 1] } e
  have hsz : Builtin.Range.rangeSize 0 n 1 = (n.toNat : Int) := by rw [rangeSize_one]; split <;> omega
  refine hQ _ _ ρ2 F2 _ _ n.toNat _ _ S4 (p1.trans p2) (f1.trans f2) (Walks.range S.good.hd _ 0 1 n.toNat) (fun b hb => .inl (by simpa using hb)) fr.1 fr.2.1 fr.2.2 (by simp [upto]) ?_ (fun i h e => range_not e) fun k q hk v hv => ?_
  · have e1 : (0 + ((0 : Nat) : Int) * 1) = 0 := by simp
    have e2 : ((n.toNat : Int) - ((0 : Nat) : Int)) = Builtin.Range.rangeSize 0 n 1 := by rw [hsz]; simp
    rw [e1, e2]
    exact Heap.get?_push_size _ rfl
  · obtain ⟨t', rfl⟩ := hv
    unfold upto at hk
    rw [List.getElem?_map] at hk
    have hk' : k < n.toNat := by
      rcases Nat.lt_or_ge k n.toNat with q | q
      · exact q
      · rw [List.getElem?_eq_none (by simpa using q)] at hk; cases hk
    rw [List.getElem?_range hk'] at hk
    simp only [Option.map_some, Option.some.injEq] at hk
    subst hk
    have : (0 + (k : Int) * 1) = (k : Int) := by omega
    rw [this]; exact .int _ _
/-- range(n - 1, -1, -1) -/
noncomputable def downFrom (n : Nat) : List PV := (List.range n).map fun (i : Nat) => PV.int ((n : Int) - 1 - (i : Int))
theorem it_down {f e1 e2 e3 : Expr} {n : Int} (hf : Ev C lo st f (.val (.type "range")) st) (he1 : Ev C lo st e1 (.int (n - 1)) st1) (he2 : Ev C lo st1 e2 (.int (-1)) st2) (he3 : Ev C lo st2 e3 (.int (-1)) st3) (h0 : 0 ≤ n) (h1 : n ≤ 1000000)
    (hq : starEach [e1, e2, e3] C.env = [(false, eval e1 C.env), (false, eval e2 C.env), (false, eval e3 C.env)] := by rfl)
    (hc : eval (.Call f [e1, e2, e3] [] pos) C.env = (do callWith pos (← eval f C.env) [] (backTo pos (starEach [e1, e2, e3] C.env)) (backToKw pos (keywordEach [] C.env))) := by rfl) :
    It C lo st (.Call f [e1, e2, e3] [] pos) (downFrom n.toNat) st3 := by
  refine .mk fun s ρ F S Q hQ => ?_
  refine Call_ (hf.run s ρ F S _ fun v h1' t1 ρ1 F1 r1 S1 p1 f1 => ?_) hc
  cases r1.toVal
  rw [hq]
  refine PyProof.Rows.callWith_type rfl (evalArgs_plain (spliced_cons (he1.run _ ρ1 F1 S1 _ fun u2 h2 t2 ρ2 F2 r2 S2 p2 f2 => spliced_cons (he2.run _ ρ2 F2 S2 _ fun u3 h3 t3 ρ3 F3 r3 S3 p3 f3 => spliced_cons (he3.run _ ρ3 F3 S3 _ fun u4 h4 t4 ρ4 F4 r4 S4 p4 f4 => spliced_nil ?_)))))
  obtain ⟨ta, rfl⟩ := r2.toInt
  obtain ⟨tb, rfl⟩ := r3.toInt
  obtain ⟨tc, rfl⟩ := r4.toInt
  have hsz : Builtin.Range.rangeSize (n - 1) (-1) (-1) = (n.toNat : Int) := by
    unfold Builtin.Range.rangeSize
    rw [if_neg (by decide)]
    rw [show (- -1 : Int) = 1 by decide, Int.ediv_one]
    split <;> omega
  refine call_range_3 (by decide) ?_ (.inl (PyProof.noPylong_small (by decide)))
  refine wpAny_pyIter_range (IsRange.new ..) ?_ ?_
  · unfold Builtin.Range.small Builtin.Range.rangeFitsLong
    rw [hsz, if_neg (by decide)]
    simp only [Bool.and_eq_true, Bool.or_eq_true, decide_eq_true_eq, beq_iff_eq]
    refine ⟨⟨⟨⟨?_, ?_⟩, ?_⟩, ?_⟩, ?_⟩ <;> first | omega | (right; omega) | (constructor <;> omega) | (right; constructor <;> omega)
  have S5 := S4.grow fun b o e => Heap.get?_push_of_some (h := h4) { cls := .type "range", data := .fields #[.int (n - 1) ta, .int (-1) tb, .int (-1) tc] } e
  have fr := S5.fresh (get_size (h := h4.push { cls := .type "range", data := .fields #[.int (n - 1) ta, .int (-1) tb, .int (-1) tc] }))
  have S6 := S5.grow fun b o e => Heap.get?_push_of_some { cls := .type "range_iterator", data := .fields #[rawInt (n - 1), rawInt (Builtin.Range.rangeSize (n - 1) (-1) (-1)), rawInt (-1)] } e
  refine hQ _ _ ρ4 F4 _ _ n.toNat _ _ S6 (((p1.trans p2).trans p3).trans p4) (((f1.trans f2).trans f3).trans f4) (Walks.range S.good.hd _ (n - 1) (-1) n.toNat) (fun b hb => .inl (by simpa using hb)) fr.1 fr.2.1 fr.2.2 (by simp [downFrom]) ?_ (fun i h e => range_not e) fun k q hk v hv => ?_
  · have e1 : (n - 1 + ((0 : Nat) : Int) * (-1)) = n - 1 := by simp
    have e2 : ((n.toNat : Int) - ((0 : Nat) : Int)) = Builtin.Range.rangeSize (n - 1) (-1) (-1) := by rw [hsz]; simp
    rw [e1, e2]
    exact Heap.get?_push_size _ rfl
  · obtain ⟨t', rfl⟩ := hv
    unfold downFrom at hk
    rw [List.getElem?_map] at hk
    have hk' : k < n.toNat := by
      rcases Nat.lt_or_ge k n.toNat with q | q
      · exact q
      · rw [List.getElem?_eq_none (by simpa using q)] at hk; cases hk
    rw [List.getElem?_range hk'] at hk
    simp only [Option.map_some, Option.some.injEq] at hk
    subst hk
    have : (n - 1 + (k : Int) * (-1)) = (n.toNat : Int) - 1 - (k : Int) := by omega
    rw [this]; exact .int _ _
theorem it_str {e : Expr} {s : Str} (he : Ev C lo st e (.str s) st1) (ha : s.cps.all (· < 128) = true) : It C lo st e (s.cps.toList.map fun c => .str ⟨#[c]⟩) st1 := by
  refine .mk fun sh ρ F S Q hQ => ?_
  refine he.run sh ρ F S _ fun v h1 t1 ρ1 F1 r1 S1 p1 f1 => ?_
  obtain ⟨t, rfl⟩ := r1.toStr
  refine wpAny_pyIter_ascii ha ?_
  have fr := S1.fresh (get_size (h := h1))
  have S2 := S1.grow fun b o e => Heap.get?_push_of_some { cls := .type "str_ascii_iterator", data := .fields #[.str s t, .int 0 0] } e
  refine hQ _ t1 ρ1 F1 _ _ s.cps.size _ _ S2 p1 f1 (Walks.strAscii S.good.hd _ s t) (fun b hb => .inl (by simpa using hb)) fr.1 fr.2.1 fr.2.2 (by simp) ⟨_, Heap.get?_push_size _ rfl, rfl, rfl⟩ (fun i h ⟨o, ho, hc, hd⟩ => ⟨o, ho, ?_⟩) fun k q hk v hv => ?_
  · exact notData_of hc (by decide)
  · obtain ⟨c, u, hc, rfl⟩ := hv
    rw [List.getElem?_map, Array.getElem?_toList, hc] at hk
    cases hk; exact .str _ _
theorem it_tup {e : Expr} {l : List PV} (he : Ev C lo st e (.tup l) st1) : It C lo st e l st1 := by
  refine .mk fun sh ρ F S Q hQ => ?_
  refine he.run sh ρ F S _ fun v h1 t1 ρ1 F1 r1 S1 p1 f1 => ?_
  obtain ⟨a, vs, rfl, hf, hr⟩ := r1.toTup
  have ho := S1.s.fin _ _ hf
  refine wpAny_pyIter_tuple (items := vs.toArray) ⟨_, ho, rfl, 0, rfl⟩ ?_
  have fr := S1.fresh (get_size (h := h1))
  have hne : a ≠ h1.objs.size := fun q => by rw [q, get_size] at ho; cases ho
  have S2 := S1.grow fun b o e => Heap.get?_push_of_some { cls := .type "tuple_iterator", data := .fields #[.ref a, .int 0 0] } e
  refine hQ _ t1 ρ1 F1 _ _ vs.toArray.size _ _ S2 p1 f1 (Walks.tuple S.good.hd _ a hne vs.toArray) (fun b hb => ?_) fr.1 fr.2.1 fr.2.2 (by rw [List.size_toArray, hr.length]) ⟨⟨_, Heap.get?_push_size _ rfl, rfl, rfl⟩, ⟨_, Heap.get?_push_of_some _ ho, rfl, 0, rfl⟩⟩ (fun i h ⟨⟨o, ho, hc, hd⟩, _⟩ => ⟨o, ho, ?_⟩) fun k q hk v hv => ?_
  · rcases List.mem_cons.mp hb with q | q
    · exact .inl q
    · rw [List.mem_singleton.mp q, hf]; exact .inr rfl
  · exact notData_of hc (by decide)
  · obtain ⟨y, ey, ry⟩ := hr.get hk
    have hv' : vs[k]? = some v := by simpa using hv
    rw [hv'] at ey; cases ey; exact ry

/-- f'{e}' of an int, and a literal ahead of it -/
theorem ev_fint {e : Expr} {p' : Pos} {i : Int} (he : Ev C lo st e (.int i) st1) (hd : i.natAbs.log2 < 1920) : Ev C lo st (.FormattedValue e (-1) none p') (.str (toString i)) st1 := by
  refine .mk fun s ρ F S Q hQ => ?_
  refine FormattedValue_plain (he.run s ρ F S _ fun v h1 t1 ρ1 F1 r1 S1 p1 f1 => ?_)
  obtain ⟨t, rfl⟩ := r1.toInt
  exact formatField_int_small hd (hQ _ h1 _ ρ1 F1 (.str _ _) S1 p1 f1)
theorem ev_joined1 {e : Expr} (he : Ev C lo st e r st1) : Ev C lo st (.JoinedStr [e] pos) r st1 := .mk fun s ρ F S Q hQ => JoinedStr_one (he.run s ρ F S Q hQ)
theorem ev_joined2 {e1 e2 : Expr} {s t : Str} (h1 : Ev C lo st e1 (.str s) st1) (h2 : Ev C lo st1 e2 (.str t) st2) (hz : s.length + t.length ≤ 100000) : Ev C lo st (.JoinedStr [e1, e2] pos) (.str (s ++ t)) st2 := by
  refine .mk fun sh ρ F S Q hQ => ?_
  refine JoinedStr_many (joinParts_cons (h1.run sh ρ F S _ fun v h1' t1 ρ1 F1 r1 S1 p1 f1 => ?_))
  obtain ⟨u, rfl⟩ := r1.toStr
  refine ⟨by rw [strLen_append, sizeLine_eq]; show 0 + _ ≤ _; omega, joinParts_cons (h2.run _ ρ1 F1 S1 _ fun v h2' t2 ρ2 F2 r2 S2 p2 f2 => ?_)⟩
  obtain ⟨w, rfl⟩ := r2.toStr
  have e : Str.empty ++ s = s := PySem.Str.empty_append s
  rw [e]
  refine ⟨by rw [strLen_append, sizeLine_eq]; omega, joinParts_nil (hQ _ h2' _ ρ2 F2 (.str _ _) S2 (p1.trans p2) (f1.trans f2)) (by rw [strLen_append, sizeLine_eq]; omega)⟩
end
end Mine
end
section
open PySem PySem.W PySem.Calls PyProof.Rows
set_option Elab.async false
set_option autoImplicit false
set_option linter.all false
set_option maxRecDepth 100000
namespace Mine
noncomputable abbrev pw : Program := PySem.Challenge.pw_sj0061_01
noncomputable def stAt (i : Nat) : Stmt := (pw.main.body[i]?).getD (.Pass default)
noncomputable def bodyOf (i : Nat) : List Stmt := match stAt i with
  | .FunctionDef _ _ b _ _ _ _ _ _ _ => b
  | _ => []
noncomputable def mkFd (i : Nat) (pm : Str) (tok cd : Nat) : FuncData := match stAt i with
  | .FunctionDef n p b _ _ _ sc _ _ _ => { name := n, qualname := n, params := p, body := .stmts b, scope := sc, globals := mainGlobals, closure := [], defaults := .none, kwdefaults := .none, doc := .none, pyModule := .str pm tok, annotations := none, code := .ref cd, closureTuple := .none, builtins := builtinsNs }
  | _ => default

noncomputable def classBody (i : Nat) : List Stmt := match stAt i with
  | .ClassDef _ _ _ b _ _ _ _ _ _ _ => b
  | _ => []
noncomputable def initSt : Stmt := ((classBody 102)[0]?).getD (.Pass default)
noncomputable def initBody : List Stmt := match initSt with
  | .FunctionDef _ _ b _ _ _ _ _ _ _ => b
  | _ => []
noncomputable def fd_init : FuncData := match initSt with
  | .FunctionDef n p b _ _ _ sc _ _ _ => { name := n, qualname := "Thread.__init__", params := p, body := .stmts b, scope := sc, globals := mainGlobals, closure := [], defaults := .none, kwdefaults := .none, doc := .none, pyModule := .str "gateloom.process" 1105, annotations := none, code := .ref 682, closureTuple := .none, builtins := builtinsNs }
  | _ => default
noncomputable def fd_mask : FuncData := mkFd 4 "gateloom.vec" 241 53
noncomputable def fd_is_known : FuncData := mkFd 9 "gateloom.vec" 241 89
noncomputable def fd_to_int : FuncData := mkFd 10 "gateloom.vec" 241 96
noncomputable def fd_code : FuncData := mkFd 11 "gateloom.vec" 241 103
noncomputable def fd_slice_vec : FuncData := mkFd 12 "gateloom.vec" 241 110
noncomputable def fd_bits_text : FuncData := mkFd 15 "gateloom.vec" 241 131
noncomputable def fd_grouped_digits : FuncData := mkFd 72 "gateloom.vectext" 842 500
noncomputable def fd_binary_digits : FuncData := mkFd 73 "gateloom.vectext" 842 507
noncomputable def fd_octal_digits : FuncData := mkFd 74 "gateloom.vectext" 842 514
noncomputable def fd_hex_digits : FuncData := mkFd 75 "gateloom.vectext" 842 521
noncomputable def fd_whole_text : FuncData := mkFd 76 "gateloom.vectext" 842 528
noncomputable def fd_decimal_digits : FuncData := mkFd 77 "gateloom.vectext" 842 535
noncomputable def fd_decimal_width : FuncData := mkFd 79 "gateloom.vectext" 842 549
noncomputable def fd_padded : FuncData := mkFd 81 "gateloom.vectext" 842 563
noncomputable def fd_width_at : FuncData := mkFd 85 "gateloom.formats" 942 570
noncomputable def fd_text_vec : FuncData := mkFd 86 "gateloom.formats" 942 577
noncomputable def fd_filled : FuncData := mkFd 87 "gateloom.formats" 942 584
noncomputable def fd_number_arg : FuncData := mkFd 89 "gateloom.formats" 942 598
noncomputable def fd_one_arg : FuncData := mkFd 90 "gateloom.formats" 942 605
noncomputable def fd_format_text : FuncData := mkFd 91 "gateloom.formats" 942 612
noncomputable def fd_display_text : FuncData := mkFd 92 "gateloom.formats" 942 619
noncomputable def fd_shown_radix : FuncData := mkFd 94 "gateloom.systasks" 1035 626
noncomputable def fd_arg_values : FuncData := mkFd 95 "gateloom.systasks" 1035 633
noncomputable def fd_plain_args : FuncData := mkFd 96 "gateloom.systasks" 1035 640
noncomputable def fd_shown_path : FuncData := mkFd 97 "gateloom.systasks" 1035 647
noncomputable def fd_shown_text : FuncData := mkFd 98 "gateloom.systasks" 1035 654
noncomputable def fd_show_task : FuncData := mkFd 99 "gateloom.systasks" 1035 661
noncomputable def fd_run_late : FuncData := mkFd 100 "gateloom.systasks" 1035 668
noncomputable def fd_evaluate : FuncData := mkFd 69 "gateloom.evaluate" 728 486
noncomputable def fd_law_pool : FuncData := mkFd 104 "law_sj0061_01" 1153 694
noncomputable def fd_law_drawn : FuncData := mkFd 105 "law_sj0061_01" 1153 701
noncomputable def fd_law_figures : FuncData := mkFd 106 "law_sj0061_01" 1153 708
noncomputable def fd_law_number : FuncData := mkFd 107 "law_sj0061_01" 1153 715
noncomputable def fd_law_marked : FuncData := mkFd 108 "law_sj0061_01" 1153 720
noncomputable def fd_law_shown : FuncData := mkFd 109 "law_sj0061_01" 1153 727
noncomputable def fd_law_kernel : FuncData := mkFd 110 "law_sj0061_01" 1153 734
noncomputable def fd_law : FuncData := mkFd 111 "law_sj0061_01" 1153 739
noncomputable def einitSt : Stmt := ((classBody 1)[0]?).getD (.Pass default)
noncomputable def einitBody : List Stmt := match einitSt with
  | .FunctionDef _ _ b _ _ _ _ _ _ _ => b
  | _ => []
noncomputable def fd_einit : FuncData := match einitSt with
  | .FunctionDef n p b _ _ _ sc _ _ _ => { name := n, qualname := "GateloomError.__init__", params := p, body := .stmts b, scope := sc, globals := mainGlobals, closure := [], defaults := .ref 22, kwdefaults := .none, doc := .none, pyModule := .str "gateloom.errors" 187, annotations := none, code := .ref 28, closureTuple := .none, builtins := builtinsNs }
  | _ => default
noncomputable def tabs : Tabs where
  glob := [(("mask" : Str), Value.ref 54), (("is_known" : Str), Value.ref 90), (("to_int" : Str), Value.ref 97), (("code" : Str), Value.ref 104), (("slice_vec" : Str), Value.ref 111), (("bits_text" : Str), Value.ref 132), (("grouped_digits" : Str), Value.ref 501), (("binary_digits" : Str), Value.ref 508), (("octal_digits" : Str), Value.ref 515), (("hex_digits" : Str), Value.ref 522), (("whole_text" : Str), Value.ref 529), (("decimal_digits" : Str), Value.ref 536), (("decimal_width" : Str), Value.ref 550), (("padded" : Str), Value.ref 564), (("width_at" : Str), Value.ref 571), (("text_vec" : Str), Value.ref 578), (("filled" : Str), Value.ref 585), (("number_arg" : Str), Value.ref 599), (("one_arg" : Str), Value.ref 606), (("format_text" : Str), Value.ref 613), (("display_text" : Str), Value.ref 620), (("shown_radix" : Str), Value.ref 627), (("arg_values" : Str), Value.ref 634), (("plain_args" : Str), Value.ref 641), (("shown_path" : Str), Value.ref 648), (("shown_text" : Str), Value.ref 655), (("show_task" : Str), Value.ref 662), (("run_late" : Str), Value.ref 669), (("evaluate" : Str), Value.ref 487), (("_law_pool" : Str), Value.ref 695), (("_law_drawn" : Str), Value.ref 702), (("_law_figures" : Str), Value.ref 709), (("_law_number" : Str), Value.ref 716), (("_law_marked" : Str), Value.ref 721), (("_law_shown" : Str), Value.ref 728), (("_law_kernel" : Str), Value.ref 735), (("law" : Str), Value.ref 740), (("Thread" : Str), Value.ref 686), (("DesignError" : Str), Value.ref 45), (("MOST_WIDTH" : Str), Value.int 1000 944), (("TIME_WIDTH" : Str), Value.int 20 946)]
  miss := ["max", "min", "abs", "len", "str", "isinstance", "ord", "range", "int", "list", "sum"]
  fns := [(54, fd_mask), (90, fd_is_known), (97, fd_to_int), (104, fd_code), (111, fd_slice_vec), (132, fd_bits_text), (501, fd_grouped_digits), (508, fd_binary_digits), (515, fd_octal_digits), (522, fd_hex_digits), (529, fd_whole_text), (536, fd_decimal_digits), (550, fd_decimal_width), (564, fd_padded), (571, fd_width_at), (578, fd_text_vec), (585, fd_filled), (599, fd_number_arg), (606, fd_one_arg), (613, fd_format_text), (620, fd_display_text), (627, fd_shown_radix), (634, fd_arg_values), (641, fd_plain_args), (648, fd_shown_path), (655, fd_shown_text), (662, fd_show_task), (669, fd_run_late), (487, fd_evaluate), (695, fd_law_pool), (702, fd_law_drawn), (709, fd_law_figures), (716, fd_law_number), (721, fd_law_marked), (728, fd_law_shown), (735, fd_law_kernel), (740, fd_law), (683, fd_init), (29, fd_einit)]
theorem ok_mask : FnOK fd_mask ["w"] ["w"] [] (bodyOf 4) where
  body := rfl
  bind := fun rs h => by match rs, h with | [_], _ => rfl
  cell := by decide +kernel
  par := ⟨[], rfl⟩
  locs := by decide +kernel
  globs := by decide +kernel
  nd := by decide +kernel
  kind := rfl
  co := rfl
  gen := rfl
  glb := rfl
  blt := rfl
theorem ok_is_known : FnOK fd_is_known ["v"] ["v"] [] (bodyOf 9) where
  body := rfl
  bind := fun rs h => by match rs, h with | [_], _ => rfl
  cell := by decide +kernel
  par := ⟨[], rfl⟩
  locs := by decide +kernel
  globs := by decide +kernel
  nd := by decide +kernel
  kind := rfl
  co := rfl
  gen := rfl
  glb := rfl
  blt := rfl
theorem ok_to_int : FnOK fd_to_int ["v", "signed"] ["v", "signed", "w", "a", "b"] [] (bodyOf 10) where
  body := rfl
  bind := fun rs h => by match rs, h with | [_, _], _ => rfl
  cell := by decide +kernel
  par := ⟨["w", "a", "b"], rfl⟩
  locs := by decide +kernel
  globs := by decide +kernel
  nd := by decide +kernel
  kind := rfl
  co := rfl
  gen := rfl
  glb := rfl
  blt := rfl
theorem ok_code : FnOK fd_code ["v", "i"] ["v", "i"] [] (bodyOf 11) where
  body := rfl
  bind := fun rs h => by match rs, h with | [_, _], _ => rfl
  cell := by decide +kernel
  par := ⟨[], rfl⟩
  locs := by decide +kernel
  globs := by decide +kernel
  nd := by decide +kernel
  kind := rfl
  co := rfl
  gen := rfl
  glb := rfl
  blt := rfl
theorem ok_slice_vec : FnOK fd_slice_vec ["v", "lo", "w"] ["v", "lo", "w", "first", "last", "inner", "shift", "outside", "a", "b"] ["max", "min", "all_x", "mask"] (bodyOf 12) where
  body := rfl
  bind := fun rs h => by match rs, h with | [_, _, _], _ => rfl
  cell := by decide +kernel
  par := ⟨["first", "last", "inner", "shift", "outside", "a", "b"], rfl⟩
  locs := by decide +kernel
  globs := by decide +kernel
  nd := by decide +kernel
  kind := rfl
  co := rfl
  gen := rfl
  glb := rfl
  blt := rfl
theorem ok_bits_text : FnOK fd_bits_text ["v"] ["v", "signs", "row", "i"] ["range", "code"] (bodyOf 15) where
  body := rfl
  bind := fun rs h => by match rs, h with | [_], _ => rfl
  cell := by decide +kernel
  par := ⟨["signs", "row", "i"], rfl⟩
  locs := by decide +kernel
  globs := by decide +kernel
  nd := by decide +kernel
  kind := rfl
  co := rfl
  gen := rfl
  glb := rfl
  blt := rfl
theorem ok_grouped_digits : FnOK fd_grouped_digits ["v", "size"] ["v", "size", "row", "lo", "group"] ["slice_vec", "min", "is_known", "group_sign"] (bodyOf 72) where
  body := rfl
  bind := fun rs h => by match rs, h with | [_, _], _ => rfl
  cell := by decide +kernel
  par := ⟨["row", "lo", "group"], rfl⟩
  locs := by decide +kernel
  globs := by decide +kernel
  nd := by decide +kernel
  kind := rfl
  co := rfl
  gen := rfl
  glb := rfl
  blt := rfl
theorem ok_binary_digits : FnOK fd_binary_digits ["v"] ["v"] ["bits_text"] (bodyOf 73) where
  body := rfl
  bind := fun rs h => by match rs, h with | [_], _ => rfl
  cell := by decide +kernel
  par := ⟨[], rfl⟩
  locs := by decide +kernel
  globs := by decide +kernel
  nd := by decide +kernel
  kind := rfl
  co := rfl
  gen := rfl
  glb := rfl
  blt := rfl
theorem ok_octal_digits : FnOK fd_octal_digits ["v"] ["v"] ["grouped_digits"] (bodyOf 74) where
  body := rfl
  bind := fun rs h => by match rs, h with | [_], _ => rfl
  cell := by decide +kernel
  par := ⟨[], rfl⟩
  locs := by decide +kernel
  globs := by decide +kernel
  nd := by decide +kernel
  kind := rfl
  co := rfl
  gen := rfl
  glb := rfl
  blt := rfl
theorem ok_hex_digits : FnOK fd_hex_digits ["v"] ["v"] ["grouped_digits"] (bodyOf 75) where
  body := rfl
  bind := fun rs h => by match rs, h with | [_], _ => rfl
  cell := by decide +kernel
  par := ⟨[], rfl⟩
  locs := by decide +kernel
  globs := by decide +kernel
  nd := by decide +kernel
  kind := rfl
  co := rfl
  gen := rfl
  glb := rfl
  blt := rfl
theorem ok_whole_text : FnOK fd_whole_text ["n"] ["n", "rest", "row", "part"] ["abs", "divmod", "str"] (bodyOf 76) where
  body := rfl
  bind := fun rs h => by match rs, h with | [_], _ => rfl
  cell := by decide +kernel
  par := ⟨["rest", "row", "part"], rfl⟩
  locs := by decide +kernel
  globs := by decide +kernel
  nd := by decide +kernel
  kind := rfl
  co := rfl
  gen := rfl
  glb := rfl
  blt := rfl
theorem ok_decimal_digits : FnOK fd_decimal_digits ["v", "signed"] ["v", "signed", "n"] ["to_int", "group_sign", "whole_text"] (bodyOf 77) where
  body := rfl
  bind := fun rs h => by match rs, h with | [_, _], _ => rfl
  cell := by decide +kernel
  par := ⟨["n"], rfl⟩
  locs := by decide +kernel
  globs := by decide +kernel
  nd := by decide +kernel
  kind := rfl
  co := rfl
  gen := rfl
  glb := rfl
  blt := rfl
theorem ok_decimal_width : FnOK fd_decimal_width ["w", "signed"] ["w", "signed"] ["len", "whole_text", "mask"] (bodyOf 79) where
  body := rfl
  bind := fun rs h => by match rs, h with | [_, _], _ => rfl
  cell := by decide +kernel
  par := ⟨[], rfl⟩
  locs := by decide +kernel
  globs := by decide +kernel
  nd := by decide +kernel
  kind := rfl
  co := rfl
  gen := rfl
  glb := rfl
  blt := rfl
theorem ok_padded : FnOK fd_padded ["kind", "v", "signed", "minimal"] ["kind", "v", "signed", "minimal", "text"] ["decimal_digits", "decimal_width", "binary_digits", "octal_digits", "hex_digits", "without_zeros"] (bodyOf 81) where
  body := rfl
  bind := fun rs h => by match rs, h with | [_, _, _, _], _ => rfl
  cell := by decide +kernel
  par := ⟨["text"], rfl⟩
  locs := by decide +kernel
  globs := by decide +kernel
  nd := by decide +kernel
  kind := rfl
  co := rfl
  gen := rfl
  glb := rfl
  blt := rfl
theorem ok_width_at : FnOK fd_width_at ["template", "index"] ["template", "index", "end", "width"] ["min", "ord", "MOST_WIDTH"] (bodyOf 85) where
  body := rfl
  bind := fun rs h => by match rs, h with | [_, _], _ => rfl
  cell := by decide +kernel
  par := ⟨["end", "width"], rfl⟩
  locs := by decide +kernel
  globs := by decide +kernel
  nd := by decide +kernel
  kind := rfl
  co := rfl
  gen := rfl
  glb := rfl
  blt := rfl
theorem ok_text_vec : FnOK fd_text_vec ["text"] ["text", "value", "char"] ["ord", "max", "len"] (bodyOf 86) where
  body := rfl
  bind := fun rs h => by match rs, h with | [_], _ => rfl
  cell := by decide +kernel
  par := ⟨["value", "char"], rfl⟩
  locs := by decide +kernel
  globs := by decide +kernel
  nd := by decide +kernel
  kind := rfl
  co := rfl
  gen := rfl
  glb := rfl
  blt := rfl
theorem ok_filled : FnOK fd_filled ["text", "width", "usual"] ["text", "width", "usual"] [] (bodyOf 87) where
  body := rfl
  bind := fun rs h => by match rs, h with | [_, _, _], _ => rfl
  cell := by decide +kernel
  par := ⟨[], rfl⟩
  locs := by decide +kernel
  globs := by decide +kernel
  nd := by decide +kernel
  kind := rfl
  co := rfl
  gen := rfl
  glb := rfl
  blt := rfl
theorem ok_number_arg : FnOK fd_number_arg ["letter", "v", "signed", "width"] ["letter", "v", "signed", "width", "text"] ["padded"] (bodyOf 89) where
  body := rfl
  bind := fun rs h => by match rs, h with | [_, _, _, _], _ => rfl
  cell := by decide +kernel
  par := ⟨["text"], rfl⟩
  locs := by decide +kernel
  globs := by decide +kernel
  nd := by decide +kernel
  kind := rfl
  co := rfl
  gen := rfl
  glb := rfl
  blt := rfl
theorem ok_one_arg : FnOK fd_one_arg ["letter", "width", "arg"] ["letter", "width", "arg", "signed", "v", "known"] ["string_arg", "isinstance", "str", "text_vec", "filled", "chr", "decimal_digits", "TIME_WIDTH", "number_arg"] (bodyOf 90) where
  body := rfl
  bind := fun rs h => by match rs, h with | [_, _, _], _ => rfl
  cell := by decide +kernel
  par := ⟨["signed", "v", "known"], rfl⟩
  locs := by decide +kernel
  globs := by decide +kernel
  nd := by decide +kernel
  kind := rfl
  co := rfl
  gen := rfl
  glb := rfl
  blt := rfl
theorem ok_format_text : FnOK fd_format_text ["template", "args", "path"] ["template", "args", "path", "pieces", "used", "index", "width", "end", "letter"] ["len", "width_at", "filled", "one_arg"] (bodyOf 91) where
  body := rfl
  bind := fun rs h => by match rs, h with | [_, _, _], _ => rfl
  cell := by decide +kernel
  par := ⟨["pieces", "used", "index", "width", "end", "letter"], rfl⟩
  locs := by decide +kernel
  globs := by decide +kernel
  nd := by decide +kernel
  kind := rfl
  co := rfl
  gen := rfl
  glb := rfl
  blt := rfl
theorem ok_display_text : FnOK fd_display_text ["args", "radix", "path"] ["args", "radix", "path", "pieces", "rest", "first", "piece"] ["len", "isinstance", "str", "format_text", "padded"] (bodyOf 92) where
  body := rfl
  bind := fun rs h => by match rs, h with | [_, _, _], _ => rfl
  cell := by decide +kernel
  par := ⟨["pieces", "rest", "first", "piece"], rfl⟩
  locs := by decide +kernel
  globs := by decide +kernel
  nd := by decide +kernel
  kind := rfl
  co := rfl
  gen := rfl
  glb := rfl
  blt := rfl
theorem ok_shown_radix : FnOK fd_shown_radix ["name", "stem"] ["name", "stem", "radix"] [] (bodyOf 94) where
  body := rfl
  bind := fun rs h => by match rs, h with | [_, _], _ => rfl
  cell := by decide +kernel
  par := ⟨["radix"], rfl⟩
  locs := by decide +kernel
  globs := by decide +kernel
  nd := by decide +kernel
  kind := rfl
  co := rfl
  gen := rfl
  glb := rfl
  blt := rfl
theorem ok_arg_values : FnOK fd_arg_values ["kernel", "args", "thread"] ["kernel", "args", "thread", "ctx", "values", "arg"] ["evaluate"] (bodyOf 95) where
  body := rfl
  bind := fun rs h => by match rs, h with | [_, _, _], _ => rfl
  cell := by decide +kernel
  par := ⟨["ctx", "values", "arg"], rfl⟩
  locs := by decide +kernel
  globs := by decide +kernel
  nd := by decide +kernel
  kind := rfl
  co := rfl
  gen := rfl
  glb := rfl
  blt := rfl
theorem ok_plain_args : FnOK fd_plain_args ["args"] ["args"] ["len"] (bodyOf 96) where
  body := rfl
  bind := fun rs h => by match rs, h with | [_], _ => rfl
  cell := by decide +kernel
  par := ⟨[], rfl⟩
  locs := by decide +kernel
  globs := by decide +kernel
  nd := by decide +kernel
  kind := rfl
  co := rfl
  gen := rfl
  glb := rfl
  blt := rfl
theorem ok_shown_path : FnOK fd_shown_path ["args", "thread"] ["args", "thread"] ["len"] (bodyOf 97) where
  body := rfl
  bind := fun rs h => by match rs, h with | [_, _], _ => rfl
  cell := by decide +kernel
  par := ⟨[], rfl⟩
  locs := by decide +kernel
  globs := by decide +kernel
  nd := by decide +kernel
  kind := rfl
  co := rfl
  gen := rfl
  glb := rfl
  blt := rfl
theorem ok_shown_text : FnOK fd_shown_text ["kernel", "args", "radix", "thread"] ["kernel", "args", "radix", "thread"] ["display_text", "arg_values", "plain_args", "shown_path"] (bodyOf 98) where
  body := rfl
  bind := fun rs h => by match rs, h with | [_, _, _, _], _ => rfl
  cell := by decide +kernel
  par := ⟨[], rfl⟩
  locs := by decide +kernel
  globs := by decide +kernel
  nd := by decide +kernel
  kind := rfl
  co := rfl
  gen := rfl
  glb := rfl
  blt := rfl
theorem ok_show_task : FnOK fd_show_task ["kernel", "name", "args", "thread"] ["kernel", "name", "args", "thread", "radix"] ["shown_radix", "shown_text"] (bodyOf 99) where
  body := rfl
  bind := fun rs h => by match rs, h with | [_, _, _, _], _ => rfl
  cell := by decide +kernel
  par := ⟨["radix"], rfl⟩
  locs := by decide +kernel
  globs := by decide +kernel
  nd := by decide +kernel
  kind := rfl
  co := rfl
  gen := rfl
  glb := rfl
  blt := rfl
theorem ok_run_late : FnOK fd_run_late ["kernel", "name", "args", "thread"] ["kernel", "name", "args", "thread", "radix"] ["shown_radix", "DesignError", "shown_text"] (bodyOf 100) where
  body := rfl
  bind := fun rs h => by match rs, h with | [_, _, _, _], _ => rfl
  cell := by decide +kernel
  par := ⟨["radix"], rfl⟩
  locs := by decide +kernel
  globs := by decide +kernel
  nd := by decide +kernel
  kind := rfl
  co := rfl
  gen := rfl
  glb := rfl
  blt := rfl
theorem ok_law_pool : FnOK fd_law_pool ["script"] ["script", "cells"] ["list"] (bodyOf 104) where
  body := rfl
  bind := fun rs h => by match rs, h with | [_], _ => rfl
  cell := by decide +kernel
  par := ⟨["cells"], rfl⟩
  locs := by decide +kernel
  globs := by decide +kernel
  nd := by decide +kernel
  kind := rfl
  co := rfl
  gen := rfl
  glb := rfl
  blt := rfl
theorem ok_law_drawn : FnOK fd_law_drawn ["pool", "limit"] ["pool", "limit", "cell"] ["len"] (bodyOf 105) where
  body := rfl
  bind := fun rs h => by match rs, h with | [_, _], _ => rfl
  cell := by decide +kernel
  par := ⟨["cell"], rfl⟩
  locs := by decide +kernel
  globs := by decide +kernel
  nd := by decide +kernel
  kind := rfl
  co := rfl
  gen := rfl
  glb := rfl
  blt := rfl
theorem ok_law_figures : FnOK fd_law_figures ["number", "base", "many"] ["number", "base", "many", "found", "spot"] ["range"] (bodyOf 106) where
  body := rfl
  bind := fun rs h => by match rs, h with | [_, _, _], _ => rfl
  cell := by decide +kernel
  par := ⟨["found", "spot"], rfl⟩
  locs := by decide +kernel
  globs := by decide +kernel
  nd := by decide +kernel
  kind := rfl
  co := rfl
  gen := rfl
  glb := rfl
  blt := rfl
theorem ok_law_number : FnOK fd_law_number ["radix", "wide", "number", "signed"] ["radix", "wide", "number", "signed", "number_shown", "longest", "found"] ["_law_figures", "len"] (bodyOf 107) where
  body := rfl
  bind := fun rs h => by match rs, h with | [_, _, _, _], _ => rfl
  cell := by decide +kernel
  par := ⟨["number_shown", "longest", "found"], rfl⟩
  locs := by decide +kernel
  globs := by decide +kernel
  nd := by decide +kernel
  kind := rfl
  co := rfl
  gen := rfl
  glb := rfl
  blt := rfl
theorem ok_law_shown : FnOK fd_law_shown ["radix", "given", "wides", "numbers"] ["radix", "given", "wides", "numbers", "path", "rest", "found", "one"] ["list", "_law_marked"] (bodyOf 109) where
  body := rfl
  bind := fun rs h => by match rs, h with | [_, _, _, _], _ => rfl
  cell := by decide +kernel
  par := ⟨["path", "rest", "found", "one"], rfl⟩
  locs := by decide +kernel
  globs := by decide +kernel
  nd := by decide +kernel
  kind := rfl
  co := rfl
  gen := rfl
  glb := rfl
  blt := rfl
theorem ok_init : FnOK fd_init ["self", "number", "code", "pc", "frame", "path"] ["self", "number", "code", "pc", "frame", "path"] [] initBody where
  body := rfl
  bind := fun rs h => by match rs, h with | [_, _, _, _, _, _], _ => rfl
  cell := by decide +kernel
  par := ⟨[], rfl⟩
  locs := by decide +kernel
  globs := by decide +kernel
  nd := by decide +kernel
  kind := rfl
  co := rfl
  gen := rfl
  glb := rfl
  blt := rfl
end Mine
end
section
open PySem PySem.W PySem.Calls PyProof.Rows PySem.Builtin.Str
set_option Elab.async false
set_option autoImplicit false
set_option linter.all false
set_option maxRecDepth 100000
namespace Mine

theorem Tst.cast {C : Cx} {lo : List (Option PV)} {st st1 : List Cell} {e : Expr} {b b' : Bool} (h : Tst C lo st e b st1) (q : b = b') : Tst C lo st e b' st1 := q ▸ h
theorem Ev.cast {C : Cx} {lo : List (Option PV)} {st st1 : List Cell} {e : Expr} {r r' : PV} (h : Ev C lo st e r st1) (q : r = r') : Ev C lo st e r' st1 := q ▸ h
theorem Cl.cast {P : Pg} {T : Tabs} {lv : Nat} {f : Value} {vs : List PV} {st st' : List Cell} {r r' : PV} (h : Cl P T lv f vs st r st') (q : r = r') : Cl P T lv f vs st r' st' := q ▸ h
theorem Cl.lift {P : Pg} {T : Tabs} {lv lv' : Nat} {f : Value} {vs : List PV} {st st' : List Cell} {r : PV} (h : Cl P T lv f vs st r st') (q : lv ≤ lv') : Cl P T lv' f vs st r st' :=
  fun A s ρ F rs G hA hro hu => h A s ρ F rs G hA (by omega) (by omega)

section
variable {C : Cx} {lo : List (Option PV)} {st st1 st2 : List Cell} {pos : Pos} {K : Out → Prop} {rest : List Stmt}
theorem ex_skip {test : Expr} {body : List Stmt} (ht : Tst C lo st test false st1) (h : Ex C lo st1 rest K) : Ex C lo st (.If test body [] pos :: rest) K := ex_if_f ht (ex_nil h)
theorem tst_and2 {e1 e2 : Expr} {y1 y2 : Bool} (h1 : Tst C lo st e1 y1 st) (h2 : y1 = true → Tst C lo st e2 y2 st) : Tst C lo st (.BoolOp .And [e1, e2] pos) (y1 && y2) st :=
  tst_boolop (and_cons h1 (fun e => by rw [e]; exact (and_cons (h2 e) (fun q => by rw [q]; exact and_nil) fun q => ⟨by rw [q]; rfl, rfl⟩)) fun e => ⟨by rw [e]; rfl, rfl⟩)
theorem tst_or2 {e1 e2 : Expr} {y1 y2 : Bool} (h1 : Tst C lo st e1 y1 st) (h2 : y1 = false → Tst C lo st e2 y2 st) : Tst C lo st (.BoolOp .Or [e1, e2] pos) (y1 || y2) st :=
  tst_boolop (or_cons h1 (fun e => by rw [e]; exact (or_cons (h2 e) (fun q => by rw [q]; exact or_nil) fun q => ⟨by rw [q]; rfl, rfl⟩)) fun e => ⟨by rw [e]; rfl, rfl⟩)
end
section
variable {C : Cx} {lo : List (Option PV)} {st st1 st2 : List Cell} {pos p : Pos} {r : PV} {x : Str} {args : List Expr} {e0 : Expr} {vs : List PV} {lv : Nat}
theorem ev_fn {a : Addr} {fd : FuncData} (i j : Nat) (ha : Evs C lo st (e0 :: args) vs st1) (hc : Cl C.P C.T lv (.ref a) vs st1 r st2) (hl : lv ≤ C.lv)
    (hx : C.gkeys[i]? = some x := by rfl) (hv : C.T.glob[j]? = some (x, .ref a) := by rfl) (hk : C.T.fns[j]? = some (a, fd) := by rfl) (hd : (x == ("__debug__" : Str)) = false := by decide)
    (hq : starEach (e0 :: args) C.env = (false, eval e0 C.env) :: starEach args C.env := by rfl)
    (he : eval (.Call (.Name x p) (e0 :: args) [] pos) C.env = (do callWith pos (← eval (.Name x p) C.env) [] (backTo pos (starEach (e0 :: args) C.env)) (backToKw pos (keywordEach [] C.env))) := by rfl) : Ev C lo st (.Call (.Name x p) (e0 :: args) [] pos) r st2 :=
  ev_call (ev_glob i j hx hv hd) ha hc hl hk hq he
theorem ev_bf {id : String} (i j : Nat) (hb : bootBuiltins x = some (.builtin id)) (ha : Evs C lo st (e0 :: args) vs st1) (hc : Cl C.P C.T 0 (.builtin id) vs st1 r st2) (hn : x ≠ "__name__" := by decide)
    (hx : C.gkeys[i]? = some x := by rfl) (hv : C.T.miss[j]? = some x := by rfl) (hd : (x == ("__debug__" : Str)) = false := by decide)
    (hq : starEach (e0 :: args) C.env = (false, eval e0 C.env) :: starEach args C.env := by rfl) (hp : ∀ pos : Pos, (backTo pos (starEach args C.env)).any (·.1) = false := by intro _; rfl)
    (he : eval (.Call (.Name x p) (e0 :: args) [] pos) C.env = (do callWith pos (← eval (.Name x p) C.env) [] (backTo pos (starEach (e0 :: args) C.env)) (backToKw pos (keywordEach [] C.env))) := by rfl) : Ev C lo st (.Call (.Name x p) (e0 :: args) [] pos) r st2 :=
  ev_callb (ev_blt i j hb hn hx hv hd) ha hc (Nat.zero_le _) hq hp he
theorem ev_bt {id : String} (i j : Nat) (hb : bootBuiltins x = some (.type id)) (ha : Evs C lo st (e0 :: args) vs st1) (hc : Cl C.P C.T 0 (.type id) vs st1 r st2) (hn : x ≠ "__name__" := by decide)
    (hx : C.gkeys[i]? = some x := by rfl) (hv : C.T.miss[j]? = some x := by rfl) (hd : (x == ("__debug__" : Str)) = false := by decide)
    (hq : starEach (e0 :: args) C.env = (false, eval e0 C.env) :: starEach args C.env := by rfl) (hp : ∀ pos : Pos, (backTo pos (starEach args C.env)).any (·.1) = false := by intro _; rfl)
    (he : eval (.Call (.Name x p) (e0 :: args) [] pos) C.env = (do callWith pos (← eval (.Name x p) C.env) [] (backTo pos (starEach (e0 :: args) C.env)) (backToKw pos (keywordEach [] C.env))) := by rfl) : Ev C lo st (.Call (.Name x p) (e0 :: args) [] pos) r st2 :=
  ev_callt (ev_blt i j hb hn hx hv hd) ha hc (Nat.zero_le _) hq hp he
end
theorem boot_max : bootBuiltins "max" = some (.builtin "max") := by boot_by_name
theorem boot_min : bootBuiltins "min" = some (.builtin "min") := by boot_by_name
theorem boot_abs : bootBuiltins "abs" = some (.builtin "abs") := by boot_by_name
theorem boot_len : bootBuiltins "len" = some (.builtin "len") := by boot_by_name
theorem boot_str : bootBuiltins "str" = some (.type "str") := by boot_by_name
theorem boot_isi : bootBuiltins "isinstance" = some (.builtin "isinstance") := by boot_by_name
theorem boot_ord : bootBuiltins "ord" = some (.builtin "ord") := by boot_by_name
theorem boot_range : bootBuiltins "range" = some (.type "range") := by boot_by_name
theorem boot_int : bootBuiltins "int" = some (.type "int") := by boot_by_name
theorem boot_list : bootBuiltins "list" = some (.type "list") := by boot_by_name
theorem boot_sum : bootBuiltins "sum" = some (.builtin "sum") := by boot_by_name
/-! ### numbers -/
theorem and_nat (a b : Nat) : Builtin.bitAnd (a : Int) (b : Int) = ((a &&& b : Nat) : Int) := by
  unfold Builtin.bitAnd
  rw [decide_eq_true (Int.natCast_nonneg a), decide_eq_true (Int.natCast_nonneg b)]
  rfl
theorem and_mask (a n : Nat) : Builtin.bitAnd (a : Int) ((2 ^ n - 1 : Nat) : Int) = ((a % 2 ^ n : Nat) : Int) := by
  rw [and_nat, Nat.and_two_pow_sub_one_eq_mod]
theorem or_nat (a b : Nat) : Builtin.bitOr (a : Int) (b : Int) = ((a ||| b : Nat) : Int) := by
  have h := nat_or_add_and a b
  rw [bitOr_and, and_nat]; omega
theorem or_zero (a : Nat) : Builtin.bitOr (a : Int) 0 = (a : Int) := by
  have h := bitXor_zero (a : Int)
  unfold Builtin.bitXor at h
  have h2 := and_nat a 0
  rw [Nat.and_zero] at h2
  have h3 : Builtin.bitAnd (a : Int) 0 = 0 := h2
  rw [h3, Int.sub_zero] at h; exact h
theorem fdiv_nat (a b : Nat) : Int.fdiv (a : Int) (b : Int) = ((a / b : Nat) : Int) := by
  rw [Int.natCast_ediv, Int.fdiv_eq_ediv_of_nonneg _ (Int.natCast_nonneg b)]
theorem fmod_nat (a b : Nat) : Int.fmod (a : Int) (b : Int) = ((a % b : Nat) : Int) := by
  rw [Int.natCast_emod, Int.fmod_eq_emod_of_nonneg _ (Int.natCast_nonneg b)]
theorem pow_nat (n : Nat) : ((2 : Int) ^ n) = ((2 ^ n : Nat) : Int) := by simp
theorem shr_nat (a n : Nat) : Int.fdiv (a : Int) (2 ^ (n : Int).toNat) = ((a / 2 ^ n : Nat) : Int) := by
  rw [Int.toNat_natCast, pow_nat, fdiv_nat]

noncomputable abbrev vec (w a : Nat) : PV := .tup [.int w, .int a, .int 0]
noncomputable def toI (w a : Nat) (sg : Bool) : Int := if (sg && a / 2 ^ (w - 1) == 1) = true then (a : Int) - 2 ^ w else a

variable {P : Pg} {lv : Nat} {st : List Cell}
theorem mask_cl {w : Nat} (h1 : w ≤ 1000) : Cl P tabs (lv + 1) (.ref 54) [.int w] st (.int ((2 ^ w - 1 : Nat) : Int)) st := by
  refine cl_def ok_mask (k := 0) rfl rfl fun A L => ?_
  conv => arg 4; whnf
  refine ex_ret (ev_bin (ev_bin ev_int (ev_name 0) (b_shl (Int.natCast_nonneg _) (by omega) (by decide))) ev_int b_sub) ⟨?_, rfl⟩
  have := Nat.one_le_two_pow (n := w)
  rw [Int.one_mul, Int.toNat_natCast, pow_nat]
  congr 1; omega
theorem is_known_cl {w a : Nat} : Cl P tabs (lv + 1) (.ref 90) [vec w a] st (.bool true) st := by
  refine cl_def ok_is_known (k := 1) rfl rfl fun A L => ?_
  conv => arg 4; whnf
  exact ex_ret (ev_cmp (ev_sub (ev_name 0) ev_int (i_tup (by decide) (by decide) rfl)) ev_int c_eq) ⟨rfl, rfl⟩
theorem to_int_cl {w a : Nat} {sg : Bool} (hw : 1 ≤ w) (h1 : w ≤ 1000) : Cl P tabs (lv + 1) (.ref 97) [vec w a, .bool sg] st (.int (toI w a sg)) st := by
  refine cl_def ok_to_int (k := 2) rfl rfl fun A L => ?_
  conv => arg 4; whnf
  refine ex_unpack (ev_name 0) (.cons 2 rfl (.cons 3 rfl (.cons 4 rfl .nil))) ?_
  refine ex_skip (tst_cmp (ev_name 4) ev_int c_ne) ?_
  have e1 : ((w : Int) - 1).toNat = w - 1 := by omega
  have e2 : Int.fdiv (a : Int) (2 ^ ((w : Int) - 1).toNat) = ((a / 2 ^ (w - 1) : Nat) : Int) := by rw [e1, pow_nat, fdiv_nat]
  refine ex_if (tst_and2 (tst_bool (ev_name 1)) fun _ => tst_cmp (ev_bin (ev_name 3) (ev_bin (ev_name 2) ev_int b_sub) (b_shr (by omega))) ev_int c_eq) (fun h => ?_) (fun h => ?_)
  · refine ex_ret (ev_bin (ev_name 3) (ev_bin ev_int (ev_name 2) (b_shl (Int.natCast_nonneg _) (by omega) (by decide))) b_sub) ⟨?_, rfl⟩
    rw [e2] at h
    have h' : (sg && a / 2 ^ (w - 1) == 1) = true := by
      rw [Bool.and_eq_true, beq_iff_eq] at h ⊢
      exact ⟨h.1, by exact_mod_cast h.2⟩
    unfold toI
    rw [if_pos h', Int.one_mul, Int.toNat_natCast]
  · refine ex_nil (ex_ret (ev_name 3) ⟨?_, rfl⟩)
    rw [e2] at h
    have h' : ¬ (sg && a / 2 ^ (w - 1) == 1) = true := by
      intro q
      rw [Bool.and_eq_true, beq_iff_eq] at q
      rw [q.1, q.2] at h
      cases h
    unfold toI
    rw [if_neg h']
theorem code_cl {w a i : Nat} : Cl P tabs (lv + 1) (.ref 104) [vec w a, .int i] st (.int ((a / 2 ^ i % 2 : Nat) : Int)) st := by
  refine cl_def ok_code (k := 3) rfl rfl fun A L => ?_
  conv => arg 4; whnf
  have e0 : Int.fdiv 0 (2 ^ (i : Int).toNat) = 0 := by simp
  refine ex_ret (ev_bin (ev_bin (ev_bin (ev_sub (ev_name 0) ev_int (i_tup (by decide) (by decide) rfl)) (ev_name 1) (b_shr (Int.natCast_nonneg _))) ev_int b_and)
    (ev_bin ev_int (ev_bin (ev_bin (ev_sub (ev_name 0) ev_int (i_tup (by decide) (by decide) rfl)) (ev_name 1) (b_shr (Int.natCast_nonneg _))) ev_int b_and) (b_mul (.inl (by decide)))) b_add) ⟨?_, rfl⟩
  rw [shr_nat, e0, bitAnd_m1]
  have : Builtin.bitAnd 0 1 = 0 := by decide
  rw [this]; simp
theorem slice_vec_cl {w a lo n : Nat} (hn : 1 ≤ n) (hl : lo + n ≤ w) (h1 : w ≤ 1000) (h2 : n ≤ 60) : Cl P tabs (lv + 2) (.ref 111) [vec w a, .int lo, .int n] st (vec n (a / 2 ^ lo % 2 ^ n)) st := by
  refine cl_def ok_slice_vec (k := 4) rfl rfl fun A L => ?_
  conv => arg 4; whnf
  have m1 : max (lo : Int) 0 = lo := Int.max_eq_left (Int.natCast_nonneg _)
  have m2 : min ((lo : Int) + n) (w : Int) = ((lo + n : Nat) : Int) := by rw [Int.min_eq_left (by omega)]; simp
  refine ex_assign 3 (ev_bf 0 0 boot_max (evs_cons (ev_name 1) (evs_cons ev_int evs_nil)) cl_max) ?_
  refine ex_assign 4 (ev_bf 1 1 boot_min (evs_cons (ev_bin (ev_name 1) (ev_name 2) b_add) (evs_cons (ev_sub (ev_name 0) ev_int (i_tup (by decide) (by decide) rfl)) evs_nil)) cl_min) ?_
  rw [m1, m2]
  refine ex_skip (Tst.cast (tst_cmp (ev_name 4) (ev_name 3) c_le) (by simp; omega)) ?_
  have e3 : ((lo + n : Nat) : Int) - lo = (n : Int) := by omega
  refine ex_assign 5 (ev_fn 3 0 (evs_cons (ev_bin (ev_name 4) (ev_name 3) b_sub) evs_nil) (by rw [e3]; exact mask_cl (lv := lv) (by omega)) (Nat.le_refl _)) ?_
  refine ex_assign 6 (ev_bin (ev_name 3) (ev_name 1) b_sub) ?_
  have e4 : (lo : Int) - lo = 0 := by omega
  rw [e4]
  have hm : ((2 ^ n - 1 : Nat) : Int).natAbs < 2 ^ 64 := by
    have : 2 ^ n ≤ 2 ^ 60 := Nat.pow_le_pow_right (by decide) h2
    omega
  refine ex_assign 7 (ev_bin (ev_fn 3 0 (evs_cons (ev_name 2) evs_nil) (mask_cl (lv := lv) (by omega)) (Nat.le_refl _)) (ev_bin (ev_name 5) (ev_name 6) (b_shl (by decide) (by decide) hm)) b_xor) ?_
  have e5 : Builtin.bitXor ((2 ^ n - 1 : Nat) : Int) (((2 ^ n - 1 : Nat) : Int) * 2 ^ (0 : Int).toNat) = 0 := by
    rw [show (2 : Int) ^ (0 : Int).toNat = 1 by decide, Int.mul_one, bitXor_self]
  rw [e5]
  have hs : ((a / 2 ^ lo % 2 ^ n : Nat) : Int).natAbs < 2 ^ 64 := by
    have : a / 2 ^ lo % 2 ^ n < 2 ^ n := Nat.mod_lt _ (Nat.two_pow_pos n)
    have : 2 ^ n ≤ 2 ^ 60 := Nat.pow_le_pow_right (by decide) h2
    omega
  have e6 : Builtin.bitAnd (Int.fdiv (a : Int) (2 ^ (lo : Int).toNat)) ((2 ^ n - 1 : Nat) : Int) = ((a / 2 ^ lo % 2 ^ n : Nat) : Int) := by rw [shr_nat, and_mask]
  have e7 : Builtin.bitAnd (Int.fdiv 0 (2 ^ (lo : Int).toNat)) ((2 ^ n - 1 : Nat) : Int) = 0 := by
    have := and_mask 0 n
    simp at this ⊢; exact this
  refine ex_assign 8 (ev_bin (ev_bin (ev_bin (ev_sub (ev_name 0) ev_int (i_tup (by decide) (by decide) rfl)) (ev_name 3) (b_shr (Int.natCast_nonneg _))) (ev_name 5) b_and) (ev_name 6) (b_shl (by decide) (by decide) (by rw [e6]; exact hs))) ?_
  refine ex_assign 9 (ev_bin (ev_bin (ev_bin (ev_sub (ev_name 0) ev_int (i_tup (by decide) (by decide) rfl)) (ev_name 3) (b_shr (Int.natCast_nonneg _))) (ev_name 5) b_and) (ev_name 6) (b_shl (by decide) (by decide) (by rw [e7]; decide))) ?_
  rw [e6, e7]
  refine ex_ret (ev_tuple (evs_cons (ev_name 2) (evs_cons (ev_bin (ev_name 8) (ev_name 7) b_or) (evs_cons (ev_bin (ev_name 9) (ev_name 7) b_or) evs_nil))) (Nat.le_of_ble_eq_true rfl)) ⟨?_, rfl⟩
  have q : (2 : Int) ^ (0 : Int).toNat = 1 := by decide
  rw [q, Int.mul_one, Int.mul_one, or_zero]
  have : Builtin.bitOr 0 0 = 0 := by decide
  rw [this]
end Mine
end
section
open PySem PySem.W PySem.Calls PyProof.Rows PySem.Builtin.Str
set_option Elab.async false
set_option autoImplicit false
set_option linter.all false
set_option maxRecDepth 100000
namespace Mine

mutual
inductive Low (n : Nat) : PV → Prop
  | none : Low n .none
  | bool (b : Bool) : Low n (.bool b)
  | int (i : Int) : Low n (.int i)
  | str (x : Str) : Low n (.str x)
  | tup {l : List PV} : Lows n l → Low n (.tup l)
  | loc {i : Nat} : i < n → Low n (.loc i)
  | obj {a C : Addr} {j : Nat} : j < n → Low n (.obj a C j)
  | val (v : Value) : Low n (.val v)
inductive Lows (n : Nat) : List PV → Prop
  | nil : Lows n []
  | cons {p : PV} {l : List PV} : Low n p → Lows n l → Lows n (p :: l)
end

theorem lt_of_get {α : Type} {l : List α} {i : Nat} {x : α} (e : l[i]? = some x) : i < l.length := by
  rcases Nat.lt_or_ge i l.length with q | q
  · exact q
  · rw [List.getElem?_eq_none q] at e; cases e
mutual
theorem Rep.low {ρ : List Addr} {F : Frz} : ∀ {v : Value} {p : PV}, Rep ρ F v p → Low ρ.length p
  | _, _, .none => .none
  | _, _, .bool b => .bool b
  | _, _, .int i t => .int i
  | _, _, .str x t => .str x
  | _, _, .tup h r => .tup (Reps.low r)
  | _, _, .loc h => .loc (lt_of_get h)
  | _, _, .obj h q => .obj (lt_of_get q)
  | _, _, .val v => .val v
theorem Reps.low {ρ : List Addr} {F : Frz} : ∀ {vs : List Value} {l : List PV}, Reps ρ F vs l → Lows ρ.length l
  | _, _, .nil => .nil
  | _, _, .cons h r => .cons (Rep.low h) (Reps.low r)
end
theorem pre_back {α : Type} {l l' : List α} (h : l <+: l') {i : Nat} {x : α} (e : l'[i]? = some x) (hi : i < l.length) : l[i]? = some x := by
  obtain ⟨t, rfl⟩ := h
  rw [List.getElem?_append_left hi] at e; exact e
mutual
theorem Rep.narrow {ρ ρ' : List Addr} {F : Frz} (hp : ρ <+: ρ') : ∀ {v : Value} {p : PV}, Rep ρ' F v p → Low ρ.length p → Rep ρ F v p
  | _, _, .none, _ => .none
  | _, _, .bool b, _ => .bool b
  | _, _, .int i t, _ => .int i t
  | _, _, .str x t, _ => .str x t
  | _, _, .tup h r, .tup q => .tup h (Reps.narrow hp r q)
  | _, _, .loc h, .loc q => .loc (pre_back hp h q)
  | _, _, .obj h q, .obj z => .obj h (pre_back hp q z)
  | _, _, .val v, _ => .val v
theorem Reps.narrow {ρ ρ' : List Addr} {F : Frz} (hp : ρ <+: ρ') : ∀ {vs : List Value} {l : List PV}, Reps ρ' F vs l → Lows ρ.length l → Reps ρ F vs l
  | _, _, .nil, _ => .nil
  | _, _, .cons h r, .cons q z => .cons (Rep.narrow hp h q) (Reps.narrow hp r z)
end
theorem DictRep.low {ρ : List Addr} {F : Frz} : ∀ {es : List DictEntry} {xs : List (Str × PV)}, DictRep ρ F es xs → Lows ρ.length (xs.map (·.2))
  | [], [], _ => .nil
  | _ :: _, _ :: _, ⟨_, b, c⟩ => .cons b.low (DictRep.low c)
  | [], _ :: _, h => h.elim
  | _ :: _, [], h => h.elim
theorem DictRep.narrow {ρ ρ' : List Addr} {F : Frz} (hp : ρ <+: ρ') : ∀ {es : List DictEntry} {xs : List (Str × PV)}, DictRep ρ' F es xs → Lows ρ.length (xs.map (·.2)) → DictRep ρ F es xs
  | [], [], _, _ => trivial
  | _ :: _, _ :: _, ⟨a, b, c⟩, .cons q z => ⟨a, b.narrow hp q, DictRep.narrow hp c z⟩
  | [], _ :: _, h, _ => h.elim
  | _ :: _, [], h, _ => h.elim
noncomputable def CellLow (n : Nat) : Cell → Prop
  | .list xs => Lows n xs
  | .dict es => Lows n (es.map (·.2))
  | .cell none => True
  | .cell (some p) => Low n p
  | .inst _ j => j < n
  | .fn _ _ _ _ _ cs ic => ic < n ∧ ∀ x ∈ cs, x.2 < n
  | .code _ => True
  | .tab _ => True
  | .obj _ => True
theorem ClosAt.low {ρ : List Addr} : ∀ {l : List (Str × Addr)} {m : List (Str × Nat)}, ClosAt ρ l m → ∀ x ∈ m, x.2 < ρ.length
  | [], [], _ => fun _ h => nomatch h
  | _ :: _, _ :: _, ⟨_, b, c⟩ => fun x hx => by
    rcases List.mem_cons.mp hx with rfl | hx
    · exact lt_of_get b
    · exact ClosAt.low c x hx
  | [], _ :: _, h => h.elim
  | _ :: _, [], h => h.elim
theorem ClosAt.narrow {ρ ρ' : List Addr} (hp : ρ <+: ρ') : ∀ {l : List (Str × Addr)} {m : List (Str × Nat)}, ClosAt ρ' l m → (∀ x ∈ m, x.2 < ρ.length) → ClosAt ρ l m
  | [], [], _, _ => trivial
  | _ :: _, _ :: _, ⟨a, b, c⟩, h => ⟨a, pre_back hp b (h _ List.mem_cons_self), ClosAt.narrow hp c fun x hx => h x (List.mem_cons_of_mem _ hx)⟩
  | [], _ :: _, h, _ => h.elim
  | _ :: _, [], h, _ => h.elim
theorem CellAt.low {ρ : List Addr} {F : Frz} {h : Heap} {a : Addr} : ∀ {c : Cell}, CellAt ρ F h a c → CellLow ρ.length c
  | .list _, ⟨_, _, _, r, _⟩ => r.low
  | .dict _, ⟨_, _, _, r, _⟩ => r.low
  | .cell none, _ => trivial
  | .cell (some _), ⟨_, _, _, _, r⟩ => r.low
  | .inst _ _, ⟨_, _, e⟩ => lt_of_get e
  | .fn _ _ _ _ _ _ _, ⟨_, _, _, _, _, _, e, r⟩ => ⟨lt_of_get e, r.low⟩
  | .code _, _ => trivial
  | .tab _, _ => trivial
  | .obj _, _ => trivial
theorem CellAt.narrow {ρ ρ' : List Addr} {F : Frz} {h : Heap} {a : Addr} (hp : ρ <+: ρ') : ∀ {c : Cell}, CellAt ρ' F h a c → CellLow ρ.length c → CellAt ρ F h a c
  | .list _, ⟨vs, n, e, r, z⟩, q => ⟨vs, n, e, r.narrow hp q, z⟩
  | .dict _, ⟨ds, n, e, r, z⟩, q => ⟨ds, n, e, r.narrow hp q, z⟩
  | .cell none, ⟨o, e, d⟩, _ => ⟨o, e, d⟩
  | .cell (some _), ⟨o, v, e, d, r⟩, q => ⟨o, v, e, d, r.narrow hp q⟩
  | .inst _ _, ⟨d, e, r⟩, q => ⟨d, e, pre_back hp r q⟩
  | .fn _ _ _ _ _ _ _, ⟨x1, x2, x3, x4, x5, e, r, z⟩, q => ⟨x1, x2, x3, x4, x5, e, pre_back hp r q.1, z.narrow hp q.2⟩
  | .code _, h, _ => h
  | .tab _, h, _ => h
  | .obj _, h, _ => h
theorem SimS.lows {P : Pg} {st : List Cell} {ρ : List Addr} {F : Frz} {h : Heap} (S : SimS P st ρ F h) : ∀ c ∈ st, CellLow st.length c := by
  intro c hc
  obtain ⟨i, hi⟩ := List.getElem?_of_mem hc
  obtain ⟨a, _, k⟩ := S.cells i c hi
  rw [← S.len]; exact k.low
/-- the cells at the end are let go -/
theorem SimS.forget {P : Pg} {st g : List Cell} {ρ ρ' : List Addr} {F : Frz} {h : Heap} (S : SimS P (st ++ g) ρ' F h) (hp : ρ <+: ρ') (hl : ρ.length = st.length) (hc : ∀ c ∈ st, CellLow st.length c) (h0 : ρ[0]? = some P.ktab) : SimS P st ρ F h := by
  refine ⟨S.fin, S.gnd, S.nod.sublist hp.sublist, fun a ha => S.off a (hp.subset ha), hl, h0, fun i c e => ?_⟩
  obtain ⟨a, e1, k⟩ := S.cells i c (pre_get (List.prefix_append _ _) e)
  have hi : i < ρ.length := hl ▸ lt_of_get e
  exact ⟨a, pre_back hp e1 hi, k.narrow hp (hl ▸ hc c (List.mem_of_getElem? e))⟩
theorem Cl.forget {P : Pg} {T : Tabs} {lv : Nat} {f : Value} {vs : List PV} {st st' g : List Cell} {r : PV} (h : Cl P T lv f vs st r (st' ++ g)) (hl : st'.length = st.length) (hr : Low st.length r)
    (hc : (∀ c ∈ st, CellLow st.length c) → ∀ c ∈ st', CellLow st.length c) : Cl P T lv f vs st r st' := by
  intro A s ρ F rs G hA hro hu S hrs Q hQ
  refine h A s ρ F rs G hA hro hu S hrs Q fun v h' tk ρ' F' rv S' p g => ?_
  have e : ρ.length = st.length := S.len
  exact hQ v h' tk ρ F' (rv.narrow p (e ▸ hr)) (S'.forget p (e.trans hl.symm) (by rw [hl]; exact hc S.lows) S.tb) (List.prefix_refl _) g
theorem Cl.drop {P : Pg} {T : Tabs} {lv : Nat} {f : Value} {vs : List PV} {st g : List Cell} {r : PV} (h : Cl P T lv f vs st r (st ++ g)) (hr : Low st.length r) : Cl P T lv f vs st r st :=
  h.forget rfl hr fun x => x

theorem cl_drop {P : Pg} {T : Tabs} {lv k : Nat} {f : Addr} {fd : FuncData} {params keys gkeys : List Str} {body : List Stmt} {vs : List PV} {st st' : List Cell} {r : PV} (ok : FnOK fd params keys gkeys body) (hk : T.fns[k]? = some (f, fd)) (hn : vs.length = params.length)
    (hl : st'.length = st.length) (hr : Low st.length r) (hc : (∀ c ∈ st, CellLow st.length c) → ∀ c ∈ st', CellLow st.length c)
    (h : ∀ (A : Around) (L : Addr), Ex (mkCx P T A fd L f keys gkeys lv) (vs.map some ++ List.replicate (keys.length - vs.length) none) st body (fun o => ∃ g, RetIs r (st' ++ g) o)) : Cl P T (lv + 1) (.ref f) vs st r st' := by
  intro A s ρ F rs G hA hro hu S hrs Q hQ
  have e : ρ.length = st.length := S.len
  have D : ∀ g, (∀ v h' tk ρ' F', Rep ρ' F' v r → SimS P (st' ++ g) ρ' F' h' → ρ <+: ρ' → FLe F F' → Q v (Rest s h' tk)) := fun g v h' tk ρ' F' rv S' p g =>
    hQ v h' tk ρ F' (rv.narrow p (e ▸ hr)) (S'.forget p (e.trans hl.symm) (by rw [hl]; exact hc S.lows) S.tb) (List.prefix_refl _) g
  exact cl_rel ok hk hn h A s ρ F rs G hA hro hu S hrs Q fun v h' tk ρ' F' o ko hv p f => by
    obtain ⟨g, ko⟩ := ko
    cases o with
    | ret q st2 =>
      obtain ⟨rfl, rfl⟩ := ko
      exact D g v h' tk ρ' F' hv.1 hv.2 p f
    | next lo2 st2 =>
      obtain ⟨rfl, rfl⟩ := ko
      obtain ⟨rfl, S2⟩ := hv
      exact D g .none h' tk ρ' F' .none S2 p f
    | brk _ _ => exact ko.elim
    | cont _ _ => exact ko.elim
theorem cl_drop' {P : Pg} {T : Tabs} {lv k : Nat} {f : Addr} {fd : FuncData} {params keys gkeys : List Str} {body : List Stmt} {vs : List PV} {st : List Cell} {r : PV} (ok : FnOK fd params keys gkeys body) (hk : T.fns[k]? = some (f, fd)) (hn : vs.length = params.length)
    (hr : Low st.length r)
    (h : ∀ (A : Around) (L : Addr), Ex (mkCx P T A fd L f keys gkeys lv) (vs.map some ++ List.replicate (keys.length - vs.length) none) st body (fun o => ∃ g, RetIs r (st ++ g) o)) : Cl P T (lv + 1) (.ref f) vs st r st :=
  cl_drop ok hk hn rfl hr (fun x => x) h

section
variable {C : Cx} {lo : List (Option PV)} {st : List Cell} {K : Out → Prop} {x : Str} {px : Pos} {body : List Stmt} {items : List PV} {test : Expr}
/-- a for, by an invariant -/
theorem fo_inv (j : Nat) (Inv : Nat → List (Option PV) → List Cell → Prop) (hx : C.keys[j]? = some x) (h0 : Inv 0 lo st)
    (step : ∀ i p lo st, items[i]? = some p → Inv i lo st → Ex C (lo.set j (some p)) st body (fun o => match o with | .next lo' st' => Inv (i + 1) lo' st' | .cont lo' st' => Inv (i + 1) lo' st' | .brk lo' st' => K (.next lo' st') | .ret r s => K (.ret r s)))
    (hend : ∀ lo st, Inv items.length lo st → K (.next lo st)) : Fo C lo st x px body items K := by
  have key : ∀ (rest done : List PV) lo st, done ++ rest = items → Inv done.length lo st → Fo C lo st x px body rest K := by
    intro rest
    induction rest with
    | nil => intro done lo st e hI; rw [List.append_nil] at e; subst e; exact fo_nil (hend _ _ hI)
    | cons p rest ih =>
      intro done lo st e hI
      have e' : (done ++ [p]) ++ rest = items := by rw [List.append_assoc]; exact e
      have hl : (done ++ [p]).length = done.length + 1 := by simp
      refine fo_step j hx ((step done.length p lo st (by rw [← e]; simp) hI).mono fun o ko => ?_)
      cases o with
      | next lo' st' => exact ih (done ++ [p]) lo' st' e' (hl ▸ ko)
      | cont lo' st' => exact ih (done ++ [p]) lo' st' e' (hl ▸ ko)
      | brk _ _ => exact ko
      | ret _ _ => exact ko
  exact key items [] lo st rfl h0
/-- a while, by an invariant that counts down -/
theorem wh_inv (Inv : Nat → List (Option PV) → List Cell → Prop) (m : Nat) (h0 : Inv m lo st)
    (step : ∀ m lo st, Inv m lo st → ∃ b st1, Tst C lo st test b st1 ∧
      (b = true → Ex C lo st1 body (fun o => match o with | .next lo' st' => ∃ m', m' < m ∧ Inv m' lo' st' | .cont lo' st' => ∃ m', m' < m ∧ Inv m' lo' st' | .brk lo' st' => K (.next lo' st') | .ret r s => K (.ret r s))) ∧
      (b = false → K (.next lo st1))) : Wh C lo st test body K := by
  induction m using Nat.strongRecOn generalizing lo st with
  | ind m ih =>
    obtain ⟨b, st1, ht, h1, h2⟩ := step m lo st h0
    refine wh_step ht (fun e => (h1 e).mono fun o ko => ?_) h2
    cases o with
    | next lo' st' => obtain ⟨m', hm, hI⟩ := ko; exact ih m' hm hI
    | cont lo' st' => obtain ⟨m', hm, hI⟩ := ko; exact ih m' hm hI
    | brk _ _ => exact ko
    | ret _ _ => exact ko
end
theorem gA {st : List Cell} {c : Cell} : (st ++ [c])[st.length]? = some c := by simp
theorem setA {st : List Cell} {c d : Cell} : (st ++ [c]).set st.length d = st ++ [d] := by simp
end Mine
end
section
open PySem PySem.W PySem.Calls PyProof.Rows PySem.Builtin.Str
set_option Elab.async false
set_option autoImplicit false
set_option linter.all false
set_option maxRecDepth 100000
namespace Mine
noncomputable def one (n : Nat) : Str := ⟨#[n]⟩
noncomputable def dig (d : Nat) : Str := one (if d < 10 then 48 + d else 87 + d)
noncomputable def figs (a b : Nat) : Nat → Str
  | 0 => Str.empty
  | n + 1 => dig (a / b ^ n % b) ++ figs a b n
theorem item_bin {d : Nat} (h : d < 2) : Txt.item "01zx" d = dig d := (by decide : ∀ d : Fin 2, Txt.item "01zx" (d.val : Int) = dig d.val) ⟨d, h⟩
theorem item_hex {d : Nat} (h : d < 16) : Txt.item "0123456789abcdef" d = dig d := (by decide : ∀ d : Fin 16, Txt.item "0123456789abcdef" (d.val : Int) = dig d.val) ⟨d, h⟩
theorem join_cons (t : Str) (ts : List Str) : Txt.join "" (t :: ts) = t ++ Txt.join "" ts := by
  show glued _ _ = _ ++ glued _ _
  rw [StrLaws.glued_eq_join, StrLaws.glued_eq_join]
  cases ts with
  | nil => exact (Str.append_empty t).symm
  | cons u us => show t ++ Str.empty ++ _ = _; rw [Str.append_empty]
theorem join_nil : Txt.join "" [] = Str.empty := rfl
theorem join_app (ts us : List Str) : Txt.join "" (ts ++ us) = Txt.join "" ts ++ Txt.join "" us := by
  induction ts with
  | nil => rw [join_nil, Str.empty_append, List.nil_append]
  | cons t ts ih => rw [List.cons_append, join_cons, join_cons, ih, Str.append_assoc]
theorem join_one (t : Str) : Txt.join "" [t] = t := by rw [join_cons, join_nil, Str.append_empty]
theorem joinOk_digs (ds : List Nat) (h : ds.length ≤ 1000) : JoinOk "" (ds.map dig) = true := by
  refine joinOk_of_weight ?_ (by decide)
  rw [List.map_map, List.length_map]
  have : ∀ ds : List Nat, (ds.map (Str.length ∘ dig)).sum = ds.length := by
    intro ds; induction ds with
    | nil => rfl
    | cons d ds ih => rw [List.map_cons, List.sum_cons, ih, List.length_cons]; show 1 + _ = _; omega
  rw [this]; omega
/-- the digits, least first -/
noncomputable def digs (a b n : Nat) : List Nat := (List.range n).map fun k => a / b ^ k % b
theorem digs_succ (a b n : Nat) : digs a b (n + 1) = digs a b n ++ [a / b ^ n % b] := by unfold digs; rw [List.range_succ]; simp
theorem figs_join (a b n : Nat) : Txt.join "" ((digs a b n).reverse.map dig) = figs a b n := by
  induction n with
  | zero => rfl
  | succ n ih => rw [digs_succ, List.reverse_append, List.reverse_singleton, List.singleton_append, List.map_cons, join_cons, ih]; rfl

theorem digs_rev {a b n i : Nat} (h : i < n) : (digs a b n).reverse[i]? = some (a / b ^ (n - 1 - i) % b) := by
  unfold digs
  rw [List.getElem?_reverse (by simpa using h), List.length_map, List.length_range, List.getElem?_map, List.getElem?_range (by omega)]; rfl
theorem fits_small {n : Nat} (h : n < 1000000) : fitsSsize (n : Int) = true := by unfold fitsSsize; simp; omega

theorem bits_text_cl {P : Pg} {lv : Nat} {st : List Cell} {w a : Nat} (h : w ≤ 64) : Cl P tabs (lv + 2) (.ref 132) [vec w a] st (.str (figs a 2 w)) st := by
  refine cl_drop' ok_bits_text (k := 5) rfl rfl (.str _) fun A L => ?_
  conv => arg 4; whnf
  refine ex_assign 1 ev_str ?_
  refine ex_assign 2 (ev_list evs_nil (by decide)) ?_
  refine ex_for (it_down (n := w) (ev_blt 0 7 boot_range) (ev_bin (ev_sub (ev_name 0) ev_int (i_tup (by decide) (by decide) rfl)) ev_int b_sub) (ev_neg ev_int) (ev_neg ev_int) (by omega) (by omega)) ?_
  rw [Int.toNat_natCast]
  refine fo_inv 3 (fun i lo s => (∃ x, lo = [some (vec w a), some (.str "01zx"), some (.loc st.length), x]) ∧ s = st ++ [.list ((((digs a 2 w).reverse.take i).map dig).map .str)]) rfl ⟨⟨_, rfl⟩, rfl⟩ ?_ ?_
  · rintro i p _ _ hi ⟨⟨x, rfl⟩, rfl⟩
    have hiw : i < w := by have := lt_of_get hi; simpa [downFrom] using this
    have hp : p = .int ((w - 1 - i : Nat) : Int) := by
      unfold downFrom at hi
      rw [List.getElem?_map, List.getElem?_range hiw] at hi
      simp only [Option.map_some, Option.some.injEq] at hi
      rw [← hi]; congr 1; omega
    subst hp
    have hm : a / 2 ^ (w - 1 - i) % 2 < 2 := Nat.mod_lt _ (by decide)
    refine ex_expr (ev_append (xs := ((((digs a 2 w).reverse.take i).map dig).map .str)) (ev_name 2) (ev_sub (ev_name 1) (ev_fn 1 3 (evs_cons (ev_name 0) (evs_cons (ev_name 3) evs_nil)) (code_cl (lv := lv)) (Nat.le_refl _)) (i_str ?_ ?_ ?_)) gA ?_ ⟨_, gA⟩) ?_
    · exact fits_small (by omega)
    · exact Int.le_trans (by decide) (Int.natCast_nonneg _)
    · show _ < ((4 : Nat) : Int); omega
    · rw [List.length_map, List.length_map, List.length_take]; omega
    · refine ex_nil ⟨⟨_, rfl⟩, ?_⟩
      rw [setA, item_bin hm]
      have : (digs a 2 w).reverse.take (i + 1) = (digs a 2 w).reverse.take i ++ [a / 2 ^ (w - 1 - i) % 2] := by
        rw [List.take_succ, digs_rev hiw]; rfl
      rw [this]; simp
  · rintro lo s ⟨⟨x, rfl⟩, rfl⟩
    have hl : (downFrom w).length = (digs a 2 w).reverse.length := by simp [downFrom, digs]
    rw [hl, List.take_length]
    refine ex_ret (ev_join (ts := (digs a 2 w).reverse.map dig) ev_str (ev_name 2) gA (joinOk_digs _ (by simp [digs]; omega))) ⟨_, ?_, rfl⟩
    exact congrArg _ (figs_join a 2 w)

theorem group_eq {w a k i : Nat} (ha : a < 2 ^ w) (hi : k * i < w) : a / 2 ^ (k * i) % 2 ^ min k (w - k * i) = a / (2 ^ k) ^ i % 2 ^ k := by
  rw [← Nat.pow_mul]
  rcases Nat.le_total k (w - k * i) with h | h
  · rw [Nat.min_eq_left h]
  · rw [Nat.min_eq_right h]
    have h1 : a / 2 ^ (k * i) < 2 ^ (w - k * i) := by
      rw [Nat.div_lt_iff_lt_mul (Nat.two_pow_pos _), ← Nat.pow_add]
      rwa [show w - k * i + k * i = w by omega]
    have h2 : 2 ^ (w - k * i) ≤ 2 ^ k := Nat.pow_le_pow_right (by decide) h
    rw [Nat.mod_eq_of_lt h1, Nat.mod_eq_of_lt (Nat.lt_of_lt_of_le h1 h2)]
theorem grouped_cl {P : Pg} {lv : Nat} {st : List Cell} {w a k : Nat} (hw : w ≤ 60) (ha : a < 2 ^ w) (hk : 1 ≤ k) (hk4 : k ≤ 4) : Cl P tabs (lv + 3) (.ref 501) [vec w a, .int k] st (.str (figs a (2 ^ k) ((w + (k - 1)) / k))) st := by
  refine cl_drop' ok_grouped_digits (k := 6) rfl rfl (.str _) fun A L => ?_
  conv => arg 4; whnf
  refine ex_assign 2 (ev_list evs_nil (by decide)) ?_
  refine ex_assign 3 ev_int ?_
  refine ex_while (wh_inv (fun m lo s => ∃ i, m + i = (w + (k - 1)) / k ∧ (∃ x, lo = [some (vec w a), some (.int k), some (.loc st.length), some (.int (k * i : Nat)), x]) ∧ s = st ++ [.list (((digs a (2 ^ k) i).map dig).map .str)]) _ ⟨0, rfl, ⟨_, rfl⟩, rfl⟩ ?_)
  rintro m _ _ ⟨i, hm, ⟨x, rfl⟩, rfl⟩
  have hN : decide (((k * i : Nat) : Int) < (w : Int)) = decide (0 < m) := by
    have h1 : 0 < m ↔ i < (w + (k - 1)) / k := by omega
    rw [decide_eq_decide, h1, Nat.lt_div_iff_mul_lt (by omega), Nat.mul_comm i k]
    omega
  refine ⟨_, _, (tst_cmp (ev_name 3) (ev_sub (ev_name 0) ev_int (i_tup (by decide) (by decide) rfl)) c_lt).cast hN, fun h => ?_, fun h => ?_⟩
  · rw [decide_eq_true_eq] at h
    have hi : k * i < w := by
      have : i < (w + (k - 1)) / k := by omega
      rw [Nat.lt_div_iff_mul_lt (by omega), Nat.mul_comm i k] at this
      omega
    have e1 : min (k : Int) ((w : Int) - (k * i : Nat)) = ((min k (w - k * i) : Nat) : Int) := by omega
    refine ex_assign 4 (ev_fn 0 4 (evs_cons (ev_name 0) (evs_cons (ev_name 3) (evs_cons (ev_bf 1 1 boot_min (evs_cons (ev_name 1) (evs_cons (ev_bin (ev_sub (ev_name 0) ev_int (i_tup (by decide) (by decide) rfl)) (ev_name 3) b_sub) evs_nil)) cl_min) evs_nil)))
      (by rw [e1]; exact slice_vec_cl (lv := lv) (by omega) (by omega) (by omega) (by omega)) (Nat.le_refl _)) ?_
    rw [group_eq ha hi]
    have hd : a / (2 ^ k) ^ i % 2 ^ k < 16 := Nat.lt_of_lt_of_le (Nat.mod_lt _ (Nat.two_pow_pos k)) (Nat.pow_le_pow_right (n := 2) (by decide) hk4)
    refine ex_if_t (tst_bool (ev_fn 2 1 (evs_cons (ev_name 4) evs_nil) (is_known_cl (lv := lv + 1)) (Nat.le_refl _))) ?_
    refine ex_expr (ev_append (xs := ((digs a (2 ^ k) i).map dig).map .str) (ev_name 2) (ev_sub ev_str (ev_sub (ev_name 4) ev_int (i_tup (by decide) (by decide) rfl)) (i_str (fits_small (by omega)) (Int.le_trans (by decide) (Int.natCast_nonneg _)) (show _ < ((16 : Nat) : Int) by omega))) gA ?_ ⟨_, gA⟩) ?_
    · simp [digs]
      have : i ≤ k * i := Nat.le_mul_of_pos_left i (by omega)
      omega
    · refine ex_nil (ex_aug 3 (ev_name 1) (c := .int ((k * (i + 1) : Nat) : Int)) ?_ (ex_nil ⟨m - 1, by omega, i + 1, by omega, ⟨_, rfl⟩, ?_⟩))
      · intro A s ρ F v u hA hv hu Q hQ
        obtain ⟨t, rfl⟩ := hv.toInt
        obtain ⟨t', rfl⟩ := hu.toInt
        refine PyProof.Rows.iadd_int ?_
        have : ((k * i : Nat) : Int) + k = (k * (i + 1) : Nat) := by rw [Nat.mul_add, Nat.mul_one]; simp
        rw [this]
        exact hQ _ _ (.int _ _)
      · rw [setA, digs_succ, item_hex hd]; simp
  · have hm0 : m = 0 := by simpa using h
    subst hm0
    have hi : i = (w + (k - 1)) / k := by omega
    refine ex_expr (ev_reverse (ev_name 2) gA) ?_
    rw [setA]
    refine ex_ret (ev_join (ts := (digs a (2 ^ k) i).reverse.map dig) ev_str (ev_name 2) ?_ (joinOk_digs _ ?_)) ⟨_, ?_, rfl⟩
    · rw [gA]; simp
    · have h1 : (w + (k - 1)) / k ≤ w + (k - 1) := Nat.div_le_self _ _
      simp [digs]; omega
    · rw [figs_join, hi]
end Mine
end
section
open PySem PySem.W PySem.Calls PyProof.Rows PySem.Builtin.Str
set_option Elab.async false
set_option autoImplicit false
set_option linter.all false
set_option maxRecDepth 100000
namespace Mine
/-- an int's decimal text -/
noncomputable def dec (i : Int) : Str := Str.ofString (toString i)
theorem dec_neg {n : Int} (h : n < 0) : dec n = Str.ofString "-" ++ dec (-n) := by
  unfold dec
  rw [toString_neg h]
  apply Str.ext'
  show _ = (Str.ofString "-").cps ++ _
  rw [Str.ofString_eq_toList, Str.ofString_eq_toList, Str.ofString_eq_toList, show (0 : Int) - n = -n by omega]
  simp
theorem small_log {x : Int} (h : x.natAbs < 2 ^ 60) : x.natAbs.log2 < 1920 := by
  rcases Nat.eq_zero_or_pos x.natAbs with q | q
  · rw [q]; decide
  · have : x.natAbs.log2 < 60 := (Nat.log2_lt (by omega)).mpr h
    omega
theorem dec_len {x : Int} (h : x.natAbs < 2 ^ 60) : (dec x).length ≤ 1921 := int_text_len_1921 (small_log h)
variable {P : Pg} {lv : Nat} {st : List Cell} {w a : Nat}
theorem binary_cl (h : w ≤ 64) : Cl P tabs (lv + 3) (.ref 508) [vec w a] st (.str (figs a 2 w)) st := by
  refine cl_def ok_binary_digits (k := 7) rfl rfl fun A L => ?_
  conv => arg 4; whnf
  exact ex_ret (ev_fn 0 5 (evs_cons (ev_name 0) evs_nil) (bits_text_cl (lv := lv) h) (Nat.le_refl _)) ⟨rfl, rfl⟩
theorem octal_cl (hw : w ≤ 60) (ha : a < 2 ^ w) : Cl P tabs (lv + 4) (.ref 515) [vec w a] st (.str (figs a 8 ((w + 2) / 3))) st := by
  refine cl_def ok_octal_digits (k := 8) rfl rfl fun A L => ?_
  conv => arg 4; whnf
  exact ex_ret (ev_fn 0 6 (evs_cons (ev_name 0) (evs_cons ev_int evs_nil)) (grouped_cl (lv := lv) (k := 3) hw ha (by decide) (by decide)) (Nat.le_refl _)) ⟨rfl, rfl⟩
theorem hex_cl (hw : w ≤ 60) (ha : a < 2 ^ w) : Cl P tabs (lv + 4) (.ref 522) [vec w a] st (.str (figs a 16 ((w + 3) / 4))) st := by
  refine cl_def ok_hex_digits (k := 9) rfl rfl fun A L => ?_
  conv => arg 4; whnf
  exact ex_ret (ev_fn 0 6 (evs_cons (ev_name 0) (evs_cons ev_int evs_nil)) (grouped_cl (lv := lv) (k := 4) hw ha (by decide) (by decide)) (Nat.le_refl _)) ⟨rfl, rfl⟩
theorem whole_cl {n : Int} (hn : n.natAbs < 10 ^ 18) : Cl P tabs (lv + 1) (.ref 529) [.int n] st (.str (dec n)) st := by
  refine cl_drop' ok_whole_text (k := 10) rfl rfl (.str _) fun A L => ?_
  conv => arg 4; whnf
  have e1 : (if n < 0 then -n else n) = (n.natAbs : Int) := by split <;> omega
  refine ex_assign 1 (ev_bf 0 2 boot_abs (evs_cons (ev_name 0) evs_nil) cl_abs) ?_
  rw [e1]
  refine ex_assign 2 (ev_list evs_nil (by decide)) ?_
  have hb : decide ((10 : Int) ^ (18 : Int).toNat ≤ (n.natAbs : Int)) = false := by rw [decide_eq_false_iff_not, show (18 : Int).toNat = 18 from rfl]; omega
  refine ex_while (wh_step ((tst_cmp (ev_name 1) (ev_bin ev_int ev_int (b_pow (by decide) (by decide))) c_ge).cast hb) (fun h => by cases h) fun _ => ?_)
  have hs : ((n.natAbs : Int)).natAbs < 2 ^ 60 := by omega
  refine ex_expr (ev_append (xs := []) (ev_name 2) (ev_bt 2 4 boot_str (evs_cons (ev_name 1) evs_nil) (cl_str (small_log hs))) gA (by decide) ⟨_, gA⟩) ?_
  rw [setA]
  refine ex_if (tst_cmp (ev_name 0) ev_int c_lt) (fun h => ?_) fun h => ?_
  · have h0 : n < 0 := by simpa using h
    refine ex_expr (ev_append (ev_name 2) ev_str gA (by show 1 < 1000; decide) ⟨_, gA⟩) (ex_nil ?_)
    rw [setA]
    refine ex_expr (ev_reverse (ev_name 2) gA) ?_
    rw [setA]
    refine ex_ret (ev_join (ts := [Str.ofString "-", dec (n.natAbs : Int)]) ev_str (ev_name 2) gA (joinOk_of_weight ?_ (by decide))) ⟨_, ?_, rfl⟩
    · have := dec_len hs
      show 1 + ((dec _).length + 0) + 2 ≤ _
      omega
    · rw [join_cons, join_one, dec_neg h0, show (n.natAbs : Int) = -n by omega]
  · have h0 : ¬ n < 0 := by simpa using h
    refine ex_nil ?_
    refine ex_expr (ev_reverse (ev_name 2) gA) ?_
    rw [setA]
    refine ex_ret (ev_join (ts := [dec (n.natAbs : Int)]) ev_str (ev_name 2) gA (joinOk_of_weight ?_ (by decide))) ⟨_, ?_, rfl⟩
    · have := dec_len hs
      show ((dec _).length + 0) + 1 ≤ _
      omega
    · rw [join_one, show (n.natAbs : Int) = n by omega]
theorem toI_small {sg : Bool} (hw : w ≤ 59) (ha : a < 2 ^ w) : (toI w a sg).natAbs < 10 ^ 18 := by
  have h1 : (2 : Int) ^ w = ((2 ^ w : Nat) : Int) := pow_nat w
  have h2 : 2 ^ w ≤ 2 ^ 59 := Nat.pow_le_pow_right (by decide) hw
  unfold toI
  rw [h1]
  split <;> omega
theorem decimal_cl {sg : Bool} (hw1 : 1 ≤ w) (hw : w ≤ 59) (ha : a < 2 ^ w) : Cl P tabs (lv + 2) (.ref 536) [vec w a, .bool sg] st (.str (dec (toI w a sg))) st := by
  refine cl_def ok_decimal_digits (k := 11) rfl rfl fun A L => ?_
  conv => arg 4; whnf
  refine ex_assign 2 (ev_fn 0 2 (evs_cons (ev_name 0) (evs_cons (ev_name 1) evs_nil)) (to_int_cl (lv := lv) hw1 (by omega)) (Nat.le_refl _)) ?_
  refine ex_skip (tst_cmp (ev_name 2) ev_none (c_isnone (a := .int _) (by intro v h; cases h))) ?_
  exact ex_ret (ev_fn 2 10 (evs_cons (ev_name 2) evs_nil) (whole_cl (lv := lv) (toI_small hw ha)) (Nat.le_refl _)) ⟨rfl, rfl⟩
theorem nab {x y z : Nat} (h : x ≤ y) (k : y < z) : ((x : Nat) : Int).natAbs < z := by omega
noncomputable def dwid (w : Nat) (sg : Bool) : Nat := if sg then (dec ((2 ^ (w - 1) : Nat) : Int)).length + 1 else (dec ((2 ^ w - 1 : Nat) : Int)).length
theorem width_cl {sg : Bool} (hw1 : 1 ≤ w) (hw : w ≤ 59) : Cl P tabs (lv + 2) (.ref 550) [.int w, .bool sg] st (.int (dwid w sg : Nat)) st := by
  refine cl_def ok_decimal_width (k := 12) rfl rfl fun A L => ?_
  conv => arg 4; whnf
  have p1 : 2 ^ (w - 1) ≤ 2 ^ 59 := Nat.pow_le_pow_right (by decide) (by omega)
  have p2 : 2 ^ w ≤ 2 ^ 59 := Nat.pow_le_pow_right (by decide) hw
  have e1 : (1 : Int) * 2 ^ ((w : Int) - 1).toNat = ((2 ^ (w - 1) : Nat) : Int) := by rw [show ((w : Int) - 1).toNat = w - 1 by omega, Int.one_mul, pow_nat]
  refine ex_if (tst_bool (ev_name 1)) (fun h => ?_) fun h => ?_
  · subst h
    refine ex_ret (ev_bin (ev_bf 0 3 boot_len (evs_cons (ev_fn 1 10 (evs_cons (ev_bin ev_int (ev_bin (ev_name 0) ev_int b_sub) (b_shl (by omega) (by omega) (by decide))) evs_nil) (by rw [e1]; exact whole_cl (lv := lv) (nab p1 (by decide))) (Nat.le_refl _)) evs_nil)
      (cl_lens ?_)) ev_int b_add) ⟨rfl, rfl⟩
    have := dec_len (x := ((2 ^ (w - 1) : Nat) : Int)) (nab p1 (by decide))
    omega
  · subst h
    refine ex_nil ?_
    refine ex_ret (ev_bf 0 3 boot_len (evs_cons (ev_fn 1 10 (evs_cons (ev_fn 2 0 (evs_cons (ev_name 0) evs_nil) (mask_cl (lv := lv) (by omega)) (Nat.le_refl _)) evs_nil) (whole_cl (lv := lv) (by omega)) (Nat.le_refl _)) evs_nil)
      (cl_lens ?_)) ⟨rfl, rfl⟩
    have := dec_len (x := ((2 ^ w - 1 : Nat) : Int)) (by omega)
    omega
end Mine
end
section
open PySem PySem.W PySem.Calls PyProof.Rows PySem.Builtin.Str
set_option Elab.async false
set_option autoImplicit false
set_option linter.all false
set_option maxRecDepth 100000
namespace Mine
inductive Rd where
  | d | b | o | h
noncomputable def Rd.s : Rd → Str
  | .d => "d"
  | .b => "b"
  | .o => "o"
  | .h => "h"
noncomputable def pad (k : Rd) (w a : Nat) (sg : Bool) : Str := match k with
  | .d => Txt.rjust (dec (toI w a sg)) (dwid w sg : Nat)
  | .b => figs a 2 w
  | .o => figs a 8 ((w + 2) / 3)
  | .h => figs a 16 ((w + 3) / 4)
section
variable {P : Pg} {lv : Nat} {st : List Cell} {w a : Nat}
theorem dwid_le {sg : Bool} (hw : w ≤ 59) : dwid w sg ≤ 1922 := by
  have p1 : 2 ^ (w - 1) ≤ 2 ^ 59 := Nat.pow_le_pow_right (by decide) (by omega)
  have p2 : 2 ^ w ≤ 2 ^ 59 := Nat.pow_le_pow_right (by decide) hw
  have h1 := dec_len (x := ((2 ^ (w - 1) : Nat) : Int)) (nab p1 (by decide))
  have h2 := dec_len (x := ((2 ^ w - 1 : Nat) : Int)) (by omega)
  unfold dwid
  split <;> omega
theorem padOk {n : Nat} (h : n ≤ 5000) : PadOk (n : Int) = true := by
  unfold PadOk
  rw [fits_small (by omega), Int.toNat_natCast]
  unfold tooLong
  rw [sizeLine_eq]; simp; omega
theorem padded_cl {k : Rd} {sg : Bool} (hw1 : 1 ≤ w) (hw : w ≤ 59) (ha : a < 2 ^ w) : Cl P tabs (lv + 5) (.ref 564) [.str k.s, vec w a, .bool sg, .bool false] st (.str (pad k w a sg)) st := by
  refine cl_def ok_padded (k := 13) rfl rfl fun A L => ?_
  conv => arg 4; whnf
  cases k with
  | d =>
    refine ex_if_t ((tst_cmp (ev_name 0) ev_str c_eqs).cast (by decide)) ?_
    refine ex_assign 4 (ev_fn 0 11 (evs_cons (ev_name 1) (evs_cons (ev_name 2) evs_nil)) (decimal_cl (lv := lv + 2) hw1 hw ha) (Nat.le_refl _)) ?_
    refine ex_skip (tst_bool (ev_name 3)) ?_
    exact ex_ret (ev_rjust (ev_name 4) (ev_fn 1 12 (evs_cons (ev_sub (ev_name 1) ev_int (i_tup (by decide) (by decide) rfl)) (evs_cons (ev_name 2) evs_nil)) (width_cl (lv := lv + 2) hw1 hw) (Nat.le_refl _)) (padOk (Nat.le_trans (dwid_le hw) (by decide)))) ⟨rfl, rfl⟩
  | b =>
    refine ex_skip ((tst_cmp (ev_name 0) ev_str c_eqs).cast (by decide)) ?_
    refine ex_if_t ((tst_cmp (ev_name 0) ev_str c_eqs).cast (by decide)) ?_
    refine ex_assign 4 (ev_fn 2 7 (evs_cons (ev_name 1) evs_nil) (binary_cl (lv := lv + 1) (by omega)) (Nat.le_refl _)) (ex_nil ?_)
    refine ex_skip (tst_bool (ev_name 3)) ?_
    exact ex_ret (ev_name 4) ⟨rfl, rfl⟩
  | o =>
    refine ex_skip ((tst_cmp (ev_name 0) ev_str c_eqs).cast (by decide)) ?_
    refine ex_if_f ((tst_cmp (ev_name 0) ev_str c_eqs).cast (by decide)) ?_
    refine ex_if_t ((tst_cmp (ev_name 0) ev_str c_eqs).cast (by decide)) ?_
    refine ex_assign 4 (ev_fn 3 8 (evs_cons (ev_name 1) evs_nil) (octal_cl (lv := lv) (by omega) ha) (Nat.le_refl _)) (ex_nil (ex_nil ?_))
    refine ex_skip (tst_bool (ev_name 3)) ?_
    exact ex_ret (ev_name 4) ⟨rfl, rfl⟩
  | h =>
    refine ex_skip ((tst_cmp (ev_name 0) ev_str c_eqs).cast (by decide)) ?_
    refine ex_if_f ((tst_cmp (ev_name 0) ev_str c_eqs).cast (by decide)) ?_
    refine ex_if_f ((tst_cmp (ev_name 0) ev_str c_eqs).cast (by decide)) ?_
    refine ex_assign 4 (ev_fn 4 9 (evs_cons (ev_name 1) evs_nil) (hex_cl (lv := lv) (by omega) ha) (Nat.le_refl _)) (ex_nil (ex_nil ?_))
    refine ex_skip (tst_bool (ev_name 3)) ?_
    exact ex_ret (ev_name 4) ⟨rfl, rfl⟩
theorem padded_min {sg : Bool} (hw1 : 1 ≤ w) (hw : w ≤ 59) (ha : a < 2 ^ w) : Cl P tabs (lv + 5) (.ref 564) [.str "d", vec w a, .bool sg, .bool true] st (.str (dec (toI w a sg))) st := by
  refine cl_def ok_padded (k := 13) rfl rfl fun A L => ?_
  conv => arg 4; whnf
  refine ex_if_t ((tst_cmp (ev_name 0) ev_str c_eqs).cast (by decide)) ?_
  refine ex_assign 4 (ev_fn 0 11 (evs_cons (ev_name 1) (evs_cons (ev_name 2) evs_nil)) (decimal_cl (lv := lv + 2) hw1 hw ha) (Nat.le_refl _)) ?_
  exact ex_if_t (tst_bool (ev_name 3)) (ex_ret (ev_name 4) ⟨rfl, rfl⟩)
theorem rjust_zero (x : Str) : Txt.rjust x 0 = x := if_pos (Int.natCast_nonneg _)
theorem num_neg {k : Rd} {sg : Bool} (hw1 : 1 ≤ w) (hw : w ≤ 59) (ha : a < 2 ^ w) : Cl P tabs (lv + 6) (.ref 599) [.str k.s, vec w a, .bool sg, .int (-1)] st (.str (pad k w a sg)) st := by
  refine cl_def ok_number_arg (k := 17) rfl rfl fun A L => ?_
  conv => arg 4; whnf
  refine ex_if_t ((tst_cmp (ev_name 3) ev_int c_lt).cast (by decide)) ?_
  exact ex_ret (ev_fn 0 13 (evs_cons (ev_name 0) (evs_cons (ev_name 1) (evs_cons (ev_name 2) (evs_cons ev_bool evs_nil)))) (padded_cl (lv := lv) hw1 hw ha) (Nat.le_refl _)) ⟨rfl, rfl⟩
theorem num_short {sg : Bool} (hw1 : 1 ≤ w) (hw : w ≤ 59) (ha : a < 2 ^ w) : Cl P tabs (lv + 6) (.ref 599) [.str "d", vec w a, .bool sg, .int 0] st (.str (dec (toI w a sg))) st := by
  refine cl_def ok_number_arg (k := 17) rfl rfl fun A L => ?_
  conv => arg 4; whnf
  refine ex_skip ((tst_cmp (ev_name 3) ev_int c_lt).cast (by decide)) ?_
  refine ex_assign 4 (ev_fn 0 13 (evs_cons (ev_name 0) (evs_cons (ev_name 1) (evs_cons (ev_name 2) (evs_cons ev_bool evs_nil)))) (padded_min (lv := lv) hw1 hw ha) (Nat.le_refl _)) ?_
  refine ex_if_t ((tst_cmp (ev_name 0) ev_str c_eqs).cast (by decide)) ?_
  exact ex_ret (ev_rjust (ev_name 4) (ev_name 3) (by decide : PadOk 0 = true)) ⟨by rw [rjust_zero], rfl⟩
theorem filled_cl {s : Str} : Cl P tabs (lv + 1) (.ref 585) [.str s, .int (-1), .int 0] st (.str s) st := by
  refine cl_def ok_filled (k := 16) rfl rfl fun A L => ?_
  conv => arg 4; whnf
  refine ex_if_t ((tst_cmp (ev_name 1) ev_int c_lt).cast (by decide)) ?_
  exact ex_ret (ev_rjust (ev_name 0) (ev_name 2) (by decide : PadOk 0 = true)) ⟨by rw [rjust_zero], rfl⟩
/-- a text's number -/
noncomputable def tn (l : List Nat) : Nat := l.foldl (fun v c => (v * 256) ||| (c % 256)) 0
noncomputable def tnum (s : Str) : Nat := tn s.cps.toList
theorem tn_succ (l : List Nat) (c : Nat) : tn (l ++ [c]) = (tn l * 256) ||| (c % 256) := by unfold tn; rw [List.foldl_append]; rfl
theorem tn_lt_rev (l : List Nat) : tn l.reverse < 2 ^ (8 * l.length) := by
  induction l with
  | nil => decide
  | cons c l ih =>
    rw [List.reverse_cons, tn_succ, List.length_cons]
    refine Nat.or_lt_two_pow ?_ ?_
    · have : 2 ^ (8 * (l.length + 1)) = 2 ^ (8 * l.length) * 256 := by rw [Nat.mul_add, Nat.pow_add]
      rw [this]; omega
    · have : 2 ^ 8 ≤ 2 ^ (8 * (l.length + 1)) := Nat.pow_le_pow_right (by decide) (by omega)
      have : c % 256 < 256 := Nat.mod_lt _ (by decide)
      omega
theorem tn_lt (l : List Nat) : tn l < 2 ^ (8 * l.length) := by
  have := tn_lt_rev l.reverse
  rwa [List.reverse_reverse, List.length_reverse] at this
theorem text_vec_cl {s : Str} (h1 : 1 ≤ s.length) (h7 : s.length ≤ 7) (ha : s.cps.all (· < 128) = true) : Cl P tabs (lv + 1) (.ref 578) [.str s] st (vec (8 * s.length) (tnum s)) st := by
  refine cl_def ok_text_vec (k := 15) rfl rfl fun A L => ?_
  conv => arg 4; whnf
  refine ex_assign 1 ev_int ?_
  refine ex_for (it_str (ev_name 0) ha) ?_
  refine fo_inv 2 (fun i lo s' => (∃ x, lo = [some (.str s), some (.int (tn (s.cps.toList.take i) : Nat)), x]) ∧ s' = st) rfl ⟨⟨_, rfl⟩, rfl⟩ ?_ ?_
  · rintro i p _ _ hi ⟨⟨x, rfl⟩, rfl⟩
    rw [List.getElem?_map] at hi
    have hc : ∃ c, s.cps.toList[i]? = some c ∧ p = .str ⟨#[c]⟩ := by
      cases e : s.cps.toList[i]? with
      | none => rw [e] at hi; cases hi
      | some c => rw [e] at hi; cases hi; exact ⟨c, rfl, rfl⟩
    obtain ⟨c, hc, rfl⟩ := hc
    have hlt := lt_of_get hc
    rw [Array.length_toList] at hlt
    have hl7 : s.cps.size ≤ 7 := h7
    have hb := tn_lt (s.cps.toList.take i)
    have hb2 : 2 ^ (8 * (s.cps.toList.take i).length) ≤ 2 ^ 56 := Nat.pow_le_pow_right (by decide) (by rw [List.length_take]; omega)
    have hcc : ((Str.mk #[c]).cps.getD 0 0 : Nat) = c := rfl
    refine ex_assign 1 (ev_bin (ev_bin (ev_name 1) ev_int (b_shl (by decide) (by decide) (by omega))) (ev_bin (ev_bf 0 6 boot_ord (evs_cons (ev_name 2) evs_nil) (cl_ord rfl)) ev_int b_and) b_or) ?_
    have e1 : Builtin.bitAnd (c : Int) 255 = ((c % 2 ^ 8 : Nat) : Int) := and_mask c 8
    have e2 : ((tn (s.cps.toList.take i) : Nat) : Int) * 2 ^ (8 : Int).toNat = ((tn (s.cps.toList.take i) * 256 : Nat) : Int) := by rw [show (2 : Int) ^ (8 : Int).toNat = 256 from rfl]; simp
    have e3 : s.cps.toList.take (i + 1) = s.cps.toList.take i ++ [c] := by rw [List.take_succ, hc]; rfl
    rw [hcc, e1, e2, or_nat, ← tn_succ, ← e3]
    exact ex_nil ⟨⟨_, rfl⟩, rfl⟩
  · rintro lo s' ⟨⟨x, rfl⟩, rfl⟩
    rw [List.length_map, List.take_length]
    have e : max ((s.length : Nat) : Int) 1 = (s.length : Nat) := by omega
    refine ex_ret (ev_tuple (evs_cons (ev_bin ev_int (ev_bf 1 0 boot_max (evs_cons (ev_bf 2 3 boot_len (evs_cons (ev_name 0) evs_nil) (cl_lens (by omega))) (evs_cons ev_int evs_nil)) cl_max) (b_mul (.inl (by decide)))) (evs_cons (ev_name 1) (evs_cons ev_int evs_nil))) (Nat.le_of_ble_eq_true rfl)) ⟨?_, rfl⟩
    rw [e, show (8 : Int) * (s.length : Nat) = ((8 * s.length : Nat) : Int) by simp]; rfl
end
end Mine
end
section
open PySem PySem.W PySem.Calls PyProof.Rows PySem.Builtin.Str
set_option Elab.async false
set_option autoImplicit false
set_option linter.all false
set_option maxRecDepth 100000
namespace Mine
/-- a global int -/
theorem ev_globi {C : Cx} {lo : List (Option PV)} {st : List Cell} {pos : Pos} {x : Str} {n : Int} {t : Tok} (i j : Nat) (hx : C.gkeys[i]? = some x := by rfl) (hv : C.T.glob[j]? = some (x, .int n t) := by rfl) (hd : (x == ("__debug__" : Str)) = false := by decide) : Ev C lo st (.Name x pos) (.int n) st :=
  .mk fun s ρ F S Q hQ => (ev_glob i j hx hv hd).run s ρ F S Q fun v h' tk ρ' F' hr => by cases hr.toVal; exact hQ _ h' tk ρ' F' (.int _ _)
inductive Av where
  | non
  | txt (s : Str)
  | num (w a : Nat) (sg : Bool)
noncomputable def Av.pv : Av → PV
  | .non => .none
  | .txt s => .str s
  | .num w a sg => .tup [vec w a, .bool sg]
noncomputable def Av.ok : Av → Prop
  | .non => True
  | .txt s => 1 ≤ s.length ∧ s.length ≤ 7 ∧ s.cps.all (· < 128) = true
  | .num w a _ => 1 ≤ w ∧ w ≤ 59 ∧ a < 2 ^ w
noncomputable def Av.shw (f : Nat → Nat → Bool → Str) : Av → Str
  | .non => " "
  | .txt s => f (8 * s.length) (tnum s) false
  | .num w a sg => f w a sg
section
variable {P : Pg} {lv : Nat} {st : List Cell} {w a : Nat}
theorem one_cl {l : Str} {wd : Int} {f : Nat → Nat → Bool → Str} (hs : (l == "s") = false) (hc : (l == "c") = false) (ht : (l == "t") = false) (hx : (l == "x") = false)
    (H : ∀ (w a : Nat) (sg : Bool), 1 ≤ w → w ≤ 59 → a < 2 ^ w → Cl P tabs (lv + 6) (.ref 599) [.str l, vec w a, .bool sg, .int wd] st (.str (f w a sg)) st) {v : Av} (hv : v.ok) :
    Cl P tabs (lv + 7) (.ref 606) [.str l, .int wd, v.pv] st (.str (v.shw f)) st := by
  refine cl_def ok_one_arg (k := 18) rfl rfl fun A L => ?_
  conv => arg 4; whnf
  cases v with
  | non => exact ex_if_t (tst_cmp (ev_name 2) ev_none (c_isnone (a := .none) (by intro v h; cases h))) (ex_ret ev_str ⟨rfl, rfl⟩)
  | txt s =>
    obtain ⟨h1, h7, ha⟩ := hv
    refine ex_skip (tst_cmp (ev_name 2) ev_none (c_isnone (a := .str s) (by intro v h; cases h))) ?_
    refine ex_skip ((tst_cmp (ev_name 0) ev_str c_eqs).cast hs) ?_
    refine ex_assign 3 ev_bool ?_
    refine ex_if_t (tst_bool (ev_bf 1 5 boot_isi (evs_cons (ev_name 2) (evs_cons (ev_blt 2 4 boot_str) evs_nil)) cl_isis)) ?_
    refine ex_assign 4 (ev_fn 3 15 (evs_cons (ev_name 2) evs_nil) (text_vec_cl (lv := lv + 5) h1 h7 ha) (Nat.le_refl _)) (ex_nil ?_)
    refine ex_skip ((tst_cmp (ev_name 0) ev_str c_eqs).cast hc) ?_
    refine ex_skip ((tst_cmp (ev_name 0) ev_str c_eqs).cast ht) ?_
    refine ex_skip ((tst_cmp (ev_name 0) ev_str c_eqs).cast hx) ?_
    have hb : tnum s < 2 ^ (8 * s.length) := by
      have := tn_lt s.cps.toList
      rwa [Array.length_toList] at this
    exact ex_ret (ev_fn 8 17 (evs_cons (ev_name 0) (evs_cons (ev_name 4) (evs_cons (ev_name 3) (evs_cons (ev_name 1) evs_nil)))) (H _ _ _ (by omega) (by omega) hb) (Nat.le_refl _)) ⟨rfl, rfl⟩
  | num w a sg =>
    obtain ⟨h1, h7, ha⟩ := hv
    refine ex_skip (tst_cmp (ev_name 2) ev_none (c_isnone (a := .tup _) (by intro v h; cases h))) ?_
    refine ex_skip ((tst_cmp (ev_name 0) ev_str c_eqs).cast hs) ?_
    refine ex_assign 3 ev_bool ?_
    refine ex_if_f (tst_bool (ev_bf 1 5 boot_isi (evs_cons (ev_name 2) (evs_cons (ev_blt 2 4 boot_str) evs_nil)) cl_isit)) ?_
    refine ex_unpack (ev_name 2) (.cons 4 rfl (.cons 3 rfl .nil)) (ex_nil ?_)
    refine ex_skip ((tst_cmp (ev_name 0) ev_str c_eqs).cast hc) ?_
    refine ex_skip ((tst_cmp (ev_name 0) ev_str c_eqs).cast ht) ?_
    refine ex_skip ((tst_cmp (ev_name 0) ev_str c_eqs).cast hx) ?_
    exact ex_ret (ev_fn 8 17 (evs_cons (ev_name 0) (evs_cons (ev_name 4) (evs_cons (ev_name 3) (evs_cons (ev_name 1) evs_nil)))) (H _ _ _ h1 h7 ha) (Nat.le_refl _)) ⟨rfl, rfl⟩
noncomputable def decF (w a : Nat) (sg : Bool) : Str := dec (toI w a sg)
theorem one_d {v : Av} (hv : v.ok) : Cl P tabs (lv + 7) (.ref 606) [.str "d", .int 0, v.pv] st (.str (v.shw decF)) st :=
  one_cl (by decide) (by decide) (by decide) (by decide) (fun w a sg h1 h2 h3 => num_short h1 h2 h3) hv
theorem one_h {v : Av} (hv : v.ok) : Cl P tabs (lv + 7) (.ref 606) [.str "h", .int (-1), v.pv] st (.str (v.shw (pad .h))) st :=
  one_cl (by decide) (by decide) (by decide) (by decide) (fun w a sg h1 h2 h3 => num_neg (k := .h) h1 h2 h3) hv
/-- is the sign at i a figure? -/
noncomputable def figAt (s : Str) (i : Nat) : Bool := !(decide ((Txt.slice s (some (i : Int)) (some ((i + 1 : Nat) : Int))).cps.toList < ("0" : Str).cps.toList)) && !(decide (("9" : Str).cps.toList < (Txt.slice s (some (i : Int)) (some ((i + 1 : Nat) : Int))).cps.toList))
theorem ev_sl {C : Cx} {lo : List (Option PV)} {st : List Cell} {e1 e2 : Expr} {value : Expr} {p' pos : Pos} {s : Str} {i : Nat} (ho : Ev C lo st value (.str s) st) (h1 : Ev C lo st e1 (.int i) st) (h2 : Ev C lo st e2 (.int ((i : Int) + 1)) st) (hz : s.length ≤ 1000000)
    (hq : ∀ (o : Value) (i : Value), subscripted (.Slice (some e1) (some e2) none p') false o i = operate [i, o] (getItem o i) := by intro _ _; with_unfolding_all rfl)
    (ht : ∀ (o r : Value), letTemporaryGo value o r = pure () := by intro _ _; with_unfolding_all rfl) : Ev C lo st (.Subscript value (.Slice (some e1) (some e2) none p') pos) (.str (Txt.slice s (some (i : Int)) (some ((i + 1 : Nat) : Int)))) st :=
  ev_slice ho h1 h2 hz hq ht
theorem width_none {s : Str} {i : Nat} (hz : s.length ≤ 1000000) (h : figAt s i = false) : Cl P tabs (lv + 1) (.ref 571) [.str s, .int i] st (.tup [.int (-1), .int i]) st := by
  refine cl_def ok_width_at (k := 14) rfl rfl fun A L => ?_
  conv => arg 4; whnf
  refine ex_assign 2 (ev_name 1) ?_
  refine ex_assign 3 ev_int ?_
  refine ex_while (wh_step ((tst_and2 (tst_cmp ev_str (ev_sl (ev_name 0) (ev_name 2) (ev_bin (ev_name 2) ev_int b_add) hz) c_les) fun _ => tst_cmp (ev_sl (ev_name 0) (ev_name 2) (ev_bin (ev_name 2) ev_int b_add) hz) ev_str c_les).cast h) (fun h => by cases h) fun _ => ?_)
  refine ex_if_t ((tst_cmp (ev_name 2) (ev_name 1) c_eq).cast (by simp)) ?_
  exact ex_ret (ev_tuple (evs_cons (ev_neg ev_int) (evs_cons (ev_name 1) evs_nil)) (Nat.le_of_ble_eq_true rfl)) ⟨rfl, rfl⟩
theorem width_zero {s : Str} {i : Nat} (hz : s.length ≤ 1000000) (h0 : figAt s i = true) (hi : i < s.length) (hc : Txt.item s i = "0") (h : figAt s (i + 1) = false) : Cl P tabs (lv + 1) (.ref 571) [.str s, .int i] st (.tup [.int 0, .int ((i + 1 : Nat) : Int)]) st := by
  refine cl_def ok_width_at (k := 14) rfl rfl fun A L => ?_
  conv => arg 4; whnf
  refine ex_assign 2 (ev_name 1) ?_
  refine ex_assign 3 ev_int ?_
  refine ex_while (wh_step ((tst_and2 (tst_cmp ev_str (ev_sl (ev_name 0) (ev_name 2) (ev_bin (ev_name 2) ev_int b_add) hz) c_les) fun _ => tst_cmp (ev_sl (ev_name 0) (ev_name 2) (ev_bin (ev_name 2) ev_int b_add) hz) ev_str c_les).cast h0) (fun _ => ?_) (fun h => by cases h))
  refine ex_assign 3 (ev_bf 0 1 boot_min (evs_cons (ev_bin (ev_bin (ev_bin (ev_name 3) ev_int (b_mul (.inl (by decide)))) (ev_bf 1 6 boot_ord (evs_cons ((ev_sub (ev_name 0) (ev_name 2) (i_str (fits_small (by omega)) (by omega) (by omega))).cast (by rw [hc])) evs_nil) (cl_ord rfl)) b_add) ev_int b_sub) (evs_cons (ev_globi 2 39) evs_nil)) cl_min) ?_
  refine ex_assign 2 (ev_bin (ev_name 2) ev_int b_add) (ex_nil ?_)
  refine wh_step ((tst_and2 (tst_cmp ev_str (ev_sl (i := i + 1) (ev_name 0) (ev_name 2) (ev_bin (ev_name 2) ev_int b_add) hz) c_les) fun _ => tst_cmp (ev_sl (i := i + 1) (ev_name 0) (ev_name 2) (ev_bin (ev_name 2) ev_int b_add) hz) ev_str c_les).cast h) (fun h => by cases h) fun _ => ?_
  refine ex_skip ((tst_cmp (ev_name 2) (ev_name 1) c_eq).cast (by rw [beq_eq_false_iff_ne]; omega)) ?_
  exact ex_ret (ev_tuple (evs_cons (ev_name 3) (evs_cons (ev_name 2) evs_nil)) (Nat.le_of_ble_eq_true rfl)) ⟨rfl, rfl⟩
end
end Mine
end
section
open PySem PySem.W PySem.Calls PyProof.Rows PySem.Builtin.Str
set_option Elab.async false
set_option autoImplicit false
set_option linter.all false
set_option maxRecDepth 100000
namespace Mine
theorem figs_len (a b : Nat) : ∀ n, (figs a b n).length = n
  | 0 => rfl
  | n + 1 => by rw [figs, Str.length_append, figs_len a b n]; show 1 + n = n + 1; omega
theorem rjust_len (x : Str) (i : Int) : (Txt.rjust x i).length ≤ x.length + i.toNat := by
  unfold Txt.rjust
  split
  · omega
  · unfold padded
    simp only [Str.length, Array.size_append, Array.size_replicate]
    have : x.cps.size = x.length := rfl
    omega
theorem dec_lt {w a : Nat} {sg : Bool} (hw : w ≤ 59) (ha : a < 2 ^ w) : (dec (toI w a sg)).length ≤ 1921 := dec_len (by have := toI_small (sg := sg) hw ha; omega)
theorem pad_len {k : Rd} {w a : Nat} {sg : Bool} (hw : w ≤ 59) (ha : a < 2 ^ w) : (pad k w a sg).length ≤ 5000 := by
  cases k with
  | d =>
    have h1 := rjust_len (dec (toI w a sg)) (dwid w sg : Nat)
    have h2 := dec_lt (sg := sg) hw ha
    have h3 := dwid_le (sg := sg) hw
    show (Txt.rjust _ _).length ≤ _
    omega
  | b => show (figs _ _ _).length ≤ _; rw [figs_len]; omega
  | o => show (figs _ _ _).length ≤ _; rw [figs_len]; omega
  | h => show (figs _ _ _).length ≤ _; rw [figs_len]; omega
theorem shw_len {f : Nat → Nat → Bool → Str} (hf : ∀ w a sg, w ≤ 59 → a < 2 ^ w → (f w a sg).length ≤ 5000) : ∀ {v : Av}, v.ok → (v.shw f).length ≤ 5000
  | .non, _ => by show 1 ≤ 5000; decide
  | .txt s, ⟨h1, h2, _⟩ => hf _ _ _ (by omega) (by have := tn_lt s.cps.toList; rwa [Array.length_toList] at this)
  | .num _ _ _, ⟨_, h2, h3⟩ => hf _ _ _ h2 h3
theorem decF_len (w a : Nat) (sg : Bool) (hw : w ≤ 59) (ha : a < 2 ^ w) : (decF w a sg).length ≤ 5000 := Nat.le_trans (dec_lt hw ha) (by decide)

theorem gL {st g : List Cell} {j : Nat} {c : Cell} (h : st[j]? = some c) : (st ++ g)[j]? = some c := pre_get (List.prefix_append _ _) h
section
variable {C : Cx} {lo : List (Option PV)} {st : List Cell} {pos : Pos}
theorem tst_and3 {e1 e2 e3 : Expr} {y1 y2 y3 : Bool} (h1 : Tst C lo st e1 y1 st) (h2 : y1 = true → Tst C lo st e2 y2 st) (h3 : Tst C lo st e3 y3 st) : Tst C lo st (.BoolOp .And [e1, e2, e3] pos) (y1 && (y2 && y3)) st :=
  tst_boolop (and_cons h1 (fun e => by rw [e]; exact and_cons (h2 e) (fun e => by rw [e]; exact and_cons h3 (fun q => by rw [q]; exact and_nil) fun q => ⟨by rw [q]; rfl, rfl⟩) fun q => ⟨by rw [q]; rfl, rfl⟩) fun e => ⟨by rw [e]; rfl, rfl⟩)
end
noncomputable def wOf (i k : Nat) : Expr × List Stmt := match (bodyOf i)[k]? with
  | some (.While t b _ _) => (t, b)
  | _ => (default, [])
section
variable {P : Pg} {lv : Nat} {A : Around} {L : Addr} {st : List Cell} {ja u i e : Nat} {avs : List Av} {t path : Str} {ps : List Str} {K : Out → Prop}
noncomputable abbrev ftC (P : Pg) (A : Around) (L : Addr) (lv : Nat) : Cx := mkCx P tabs A fd_format_text L 613 ["template", "args", "path", "pieces", "used", "index", "width", "end", "letter"] ["len", "width_at", "filled", "one_arg"] lv
noncomputable def FW (P : Pg) (A : Around) (L : Addr) (lv : Nat) (st : List Cell) (ja : Nat) (t path : Str) (u i : Nat) (ps : List Str) (K : Out → Prop) : Prop :=
  ∀ x6 x7 x8 : Option PV, Wh (ftC P A L (lv + 7)) [some (.str t), some (.loc ja), some (.str path), some (.loc st.length), some (.int u), some (.int i), x6, x7, x8] (st ++ [.list (ps.map .str)]) (wOf 91 3).1 (wOf 91 3).2 K
theorem ps_one (ps : List Str) (s : Str) : ps.map PV.str ++ [.str s] = (ps ++ [s]).map .str := by simp
theorem ft_end (hi : t.length ≤ i) (hz : t.length < 100) (k : ∀ x6 x7 x8 : Option PV, K (.next [some (.str t), some (.loc ja), some (.str path), some (.loc st.length), some (.int u), some (.int i), x6, x7, x8] (st ++ [.list (ps.map .str)]))) : FW P A L lv st ja t path u i ps K := by
  intro x6 x7 x8
  conv => arg 4; whnf
  conv => arg 5; whnf
  exact wh_step ((tst_cmp (ev_name 5) (ev_bf 0 3 boot_len (evs_cons (ev_name 0) evs_nil) (cl_lens (by omega))) c_lt).cast (b' := false) (by rw [decide_eq_false_iff_not]; omega)) (fun h => by cases h) fun _ => k _ _ _
theorem ft_lit (hi : i < t.length) (hz : t.length < 100) (hc : (Txt.item t i != "%") = true) (hp : ps.length < 100) (next : FW P A L lv st ja t path u (i + 1) (ps ++ [Txt.item t i]) K) : FW P A L lv st ja t path u i ps K := by
  intro x6 x7 x8
  conv => arg 4; whnf
  conv => arg 5; whnf
  refine wh_step ((tst_cmp (ev_name 5) (ev_bf 0 3 boot_len (evs_cons (ev_name 0) evs_nil) (cl_lens (by omega))) c_lt).cast (b' := true) (by rw [decide_eq_true_eq]; omega)) (fun _ => ?_) (fun h => by cases h)
  have hs : ItS P (.str t) (.int i) (.str (Txt.item t i)) (st ++ [.list (ps.map .str)]) := i_str (fits_small (by omega)) (by omega) (by omega)
  refine ex_if_t ((tst_cmp (ev_sub (ev_name 0) (ev_name 5) hs) ev_str c_nes).cast hc) ?_
  refine ex_expr (ev_append (ev_name 3) (ev_sub (ev_name 0) (ev_name 5) hs) gA (by rw [List.length_map]; omega) ⟨_, gA⟩) ?_
  rw [setA, ps_one]
  refine ex_assign 5 (ev_bin (ev_name 5) ev_int b_add) (ex_nil (ex_nil ?_))
  exact next _ _ _
/-- a mark: the sign's part in common -/
theorem ft_pct {wd : Int} {lt : Str} (hi : i < t.length) (hz : t.length < 100) (hc : (Txt.item t i != "%") = false) (hp : ps.length < 100)
    (hW : ∀ s : List Cell, Cl P tabs (lv + 7) (.ref 571) [.str t, .int ((i : Int) + 1)] s (.tup [.int wd, .int e]) s)
    (hl : Txt.lower (Txt.slice t (some (e : Int)) (some ((e + 1 : Nat) : Int))) = lt) (hlz : tooLong lt.length = false) (p : Str)
    (H : (lt == "%") = true ∧ p = "%" ∧ FW P A L lv st ja t path u (e + 1) (ps ++ [p]) K ∨
      (lt == "%") = false ∧ (lt == "m") = true ∧ wd = -1 ∧ p = path ∧ FW P A L lv st ja t path u (e + 1) (ps ++ [p]) K ∨
      (lt == "%") = false ∧ (lt == "m") = false ∧ (lt != "") = true ∧ Txt.contains "bodhxcst" lt = true ∧ (∃ v : Av, avs[u]? = some v ∧ Cl P tabs (lv + 7) (.ref 606) [.str lt, .int wd, v.pv] (st ++ [.list (ps.map .str)]) (.str p) (st ++ [.list (ps.map .str)])) ∧ FW P A L lv st ja t path (u + 1) (e + 1) (ps ++ [p]) K ∨
      (lt == "%") = false ∧ (lt == "m") = false ∧ ((lt != "") && (Txt.contains "bodhxcst" lt && decide (u < avs.length))) = false ∧ p = Txt.slice t (some (i : Int)) (some ((e + 1 : Nat) : Int)) ∧ FW P A L lv st ja t path u (e + 1) (ps ++ [p]) K)
    (hj : st[ja]? = some (.list (avs.map Av.pv))) (hn : avs.length < 100) : FW P A L lv st ja t path u i ps K := by
  intro x6 x7 x8
  conv => arg 4; whnf
  conv => arg 5; whnf
  refine wh_step ((tst_cmp (ev_name 5) (ev_bf 0 3 boot_len (evs_cons (ev_name 0) evs_nil) (cl_lens (by omega))) c_lt).cast (b' := true) (by rw [decide_eq_true_eq]; omega)) (fun _ => ?_) (fun h => by cases h)
  have hs : ItS P (.str t) (.int i) (.str (Txt.item t i)) (st ++ [.list (ps.map .str)]) := i_str (fits_small (by omega)) (by omega) (by omega)
  refine ex_if_f ((tst_cmp (ev_sub (ev_name 0) (ev_name 5) hs) ev_str c_nes).cast hc) ?_
  refine ex_unpack (ev_fn 1 14 (evs_cons (ev_name 0) (evs_cons (ev_bin (ev_name 5) ev_int b_add) evs_nil)) (hW _) (Nat.le_refl _)) (.cons 6 rfl (.cons 7 rfl .nil)) ?_
  refine ex_assign 8 ((ev_lower (ev_sl (i := e) (ev_name 0) (ev_name 7) (ev_bin (ev_name 7) ev_int b_add) (by omega)) (by rw [hl]; exact hlz)).cast (by rw [hl])) ?_
  rcases H with ⟨h1, rfl, next⟩ | ⟨h1, h2, rfl, rfl, next⟩ | ⟨h1, h2, h3, h4, ⟨v, hv, hv2⟩, next⟩ | ⟨h1, h2, h3, rfl, next⟩
  · refine ex_if_t ((tst_cmp (ev_name 8) ev_str c_eqs).cast h1) ?_
    refine ex_expr (ev_append (ev_name 3) ev_str gA (by rw [List.length_map]; omega) ⟨_, gA⟩) (ex_nil ?_)
    rw [setA, ps_one]
    refine ex_assign 5 (ev_bin (ev_name 7) ev_int b_add) (ex_nil (ex_nil ?_))
    exact next _ _ _
  · refine ex_if_f ((tst_cmp (ev_name 8) ev_str c_eqs).cast h1) ?_
    refine ex_if_t ((tst_cmp (ev_name 8) ev_str c_eqs).cast h2) ?_
    refine ex_expr (ev_append (ev_name 3) (ev_fn 2 16 (evs_cons (ev_name 2) (evs_cons (ev_name 6) (evs_cons ev_int evs_nil))) (filled_cl (lv := lv + 6)) (Nat.le_refl _)) gA (by rw [List.length_map]; omega) ⟨_, gA⟩) (ex_nil (ex_nil ?_))
    rw [setA, ps_one]
    refine ex_assign 5 (ev_bin (ev_name 7) ev_int b_add) (ex_nil (ex_nil ?_))
    exact next _ _ _
  · refine ex_if_f ((tst_cmp (ev_name 8) ev_str c_eqs).cast h1) ?_
    refine ex_if_f ((tst_cmp (ev_name 8) ev_str c_eqs).cast h2) ?_
    have hu := lt_of_get hv
    refine ex_if_t ((tst_and3 (tst_cmp (ev_name 8) ev_str c_nes) (fun _ => tst_cmp (ev_name 8) ev_str c_ins) (tst_cmp (ev_name 4) (ev_bf 0 3 boot_len (evs_cons (ev_name 1) evs_nil) (cl_lenl (gL hj))) c_lt)).cast (b' := true) ?_) ?_
    · rw [h3, h4, List.length_map]; simp; exact hu
    have hx : (avs.map Av.pv)[((u : Nat) : Int).toNat]? = some v.pv := by rw [Int.toNat_natCast, List.getElem?_map, hv]; rfl
    refine ex_expr (ev_append (ev_name 3) (ev_fn 3 18 (evs_cons (ev_name 8) (evs_cons (ev_name 6) (evs_cons (ev_sub (ev_name 1) (ev_name 4) (i_list (gL hj) (Int.natCast_nonneg _) hx)) evs_nil))) hv2 (Nat.le_refl _)) gA (by rw [List.length_map]; omega) ⟨_, gA⟩) ?_
    rw [setA, ps_one]
    refine ex_assign 4 (ev_bin (ev_name 4) ev_int b_add) (ex_nil (ex_nil (ex_nil ?_)))
    refine ex_assign 5 (ev_bin (ev_name 7) ev_int b_add) (ex_nil (ex_nil ?_))
    exact next _ _ _
  · refine ex_if_f ((tst_cmp (ev_name 8) ev_str c_eqs).cast h1) ?_
    refine ex_if_f ((tst_cmp (ev_name 8) ev_str c_eqs).cast h2) ?_
    refine ex_if_f ((tst_and3 (tst_cmp (ev_name 8) ev_str c_nes) (fun _ => tst_cmp (ev_name 8) ev_str c_ins) (tst_cmp (ev_name 4) (ev_bf 0 3 boot_len (evs_cons (ev_name 1) evs_nil) (cl_lenl (gL hj))) c_lt)).cast (b' := false) ?_) ?_
    · rw [List.length_map, ← h3]; simp
    refine ex_expr (ev_append (ev_name 3) (ev_slice (i := i) (k := ((e + 1 : Nat) : Int)) (ev_name 0) (ev_name 5) (ev_bin (ev_name 7) ev_int b_add) (by omega)) gA (by rw [List.length_map]; omega) ⟨_, gA⟩) ?_
    rw [setA, ps_one]
    refine ex_nil (ex_nil (ex_nil ?_))
    refine ex_assign 5 (ev_bin (ev_name 7) ev_int b_add) (ex_nil (ex_nil ?_))
    exact next _ _ _
end
end Mine
end
section
open PySem PySem.W PySem.Calls PyProof.Rows PySem.Builtin.Str
set_option Elab.async false
set_option autoImplicit false
set_option linter.all false
set_option maxRecDepth 100000
namespace Mine
inductive Tp where
  | ab | m | d | h | c
noncomputable def Tp.s : Tp → Str
  | .ab => "ab"
  | .m => "%m."
  | .d => "%0d;"
  | .h => "<%h%%"
  | .c => "100%"
noncomputable def Tp.txt (path : Str) : Tp → List Av → Str
  | .ab, _ => "ab"
  | .m, _ => path ++ "."
  | .d, [] => "%0d;"
  | .d, v :: _ => v.shw decF ++ ";"
  | .h, [] => "<%h%"
  | .h, v :: _ => "<" ++ v.shw (pad .h) ++ "%"
  | .c, _ => "100%"
noncomputable def Tp.rest : Tp → List Av → List Av
  | .d, _ :: r => r
  | .h, _ :: r => r
  | _, l => l
section
variable {P : Pg} {lv : Nat} {st : List Cell} {ja u i e : Nat} {avs : List Av} {t path : Str} {ps : List Str}
theorem fmt_wrap (hj : st[ja]? = some (.list (avs.map Av.pv))) (hok : JoinOk "" ps = true)
    (H : ∀ (A : Around) (L : Addr) (K : Out → Prop), (∀ x6 x7 x8 : Option PV, K (.next [some (.str t), some (.loc ja), some (.str path), some (.loc st.length), some (.int u), some (.int i), x6, x7, x8] (st ++ [.list (ps.map .str)]))) → FW P A L lv st ja t path 0 0 [] K) :
    Cl P tabs (lv + 8) (.ref 613) [.str t, .loc ja, .str path] st (.tup [.str (Txt.join "" ps), .loc (st.length + 1)]) (st ++ [.list (ps.map .str), .list ((avs.drop u).map Av.pv)]) := by
  refine cl_def ok_format_text (k := 19) rfl rfl fun A L => ?_
  conv => arg 4; whnf
  refine ex_assign 3 (ev_list evs_nil (by decide)) ?_
  refine ex_assign 4 ev_int ?_
  refine ex_assign 5 ev_int ?_
  refine ex_while ?_
  refine H A L _ (fun x6 x7 x8 => ?_) none none none
  refine ex_ret (ev_tuple (evs_cons (ev_join (ts := ps) ev_str (ev_name 3) gA hok) (evs_cons (ev_lslice (i := some (u : Int)) (k := none) (ys := (avs.drop u).map Av.pv) (ev_name 1) (show PartIs _ _ _ (some _) (some _) from ev_name 4) trivial (gL hj) ?_) evs_nil)) (Nat.le_of_ble_eq_true rfl)) ⟨?_, ?_⟩
  · intro ρ F vs h
    rw [List.map_drop]; exact pick_from vs h
  · rw [List.length_append]; rfl
  · rw [List.append_assoc]; rfl
theorem joinOk_few {ps : List Str} (h1 : ps.length ≤ 20) (h2 : ∀ p ∈ ps, p.length ≤ 5000) : JoinOk "" ps = true := by
  refine joinOk_of_weight ?_ (by decide)
  have : ∀ ps : List Str, (∀ p ∈ ps, p.length ≤ 5000) → (ps.map (·.length)).sum ≤ 5000 * ps.length := by
    intro ps
    induction ps with
    | nil => intro _; simp
    | cons p ps ih =>
      intro h
      have a := ih fun q hq => h q (List.mem_cons_of_mem _ hq)
      have b := h p List.mem_cons_self
      rw [List.map_cons, List.sum_cons, List.length_cons]; omega
  have := this ps h2
  omega
theorem has_d : Txt.contains "bodhxcst" "d" = true := by decide +kernel
theorem has_h : Txt.contains "bodhxcst" "h" = true := by decide +kernel
theorem no_d : ((("d" : Str) != "") && (Txt.contains "bodhxcst" "d" && decide (0 < ([] : List Av).length))) = false := by simp
theorem no_h : ((("h" : Str) != "") && (Txt.contains "bodhxcst" "h" && decide (0 < ([] : List Av).length))) = false := by simp
theorem fmt_ab (hj : st[ja]? = some (.list (avs.map Av.pv))) : ∃ ps, Cl P tabs (lv + 8) (.ref 613) [.str Tp.ab.s, .loc ja, .str path] st (.tup [.str (Tp.ab.txt path avs), .loc (st.length + 1)]) (st ++ [.list ps, .list ((Tp.ab.rest avs).map Av.pv)]) := by
  refine ⟨_, (fmt_wrap (u := 0) (i := 2) (t := "ab") (ps := [] ++ [Txt.item "ab" (0 : Nat)] ++ [Txt.item "ab" (1 : Nat)]) hj (by decide) fun A L K k => ?_).cast ?_⟩
  · exact ft_lit (by decide) (by decide) (by decide) (by decide) (ft_lit (by decide) (by decide) (by decide) (by decide) (ft_end (by decide) (by decide) k))
  · have : Txt.join "" ([] ++ [Txt.item "ab" (0 : Nat)] ++ [Txt.item "ab" (1 : Nat)]) = "ab" := by decide
    rw [this]; rfl
theorem fmt_c (hj : st[ja]? = some (.list (avs.map Av.pv))) (hn : avs.length < 100) : ∃ ps, Cl P tabs (lv + 8) (.ref 613) [.str Tp.c.s, .loc ja, .str path] st (.tup [.str (Tp.c.txt path avs), .loc (st.length + 1)]) (st ++ [.list ps, .list ((Tp.c.rest avs).map Av.pv)]) := by
  refine ⟨_, (fmt_wrap (u := 0) (i := 5) (t := "100%") (ps := [] ++ [Txt.item "100%" (0 : Nat)] ++ [Txt.item "100%" (1 : Nat)] ++ [Txt.item "100%" (2 : Nat)] ++ [Txt.slice "100%" (some ((3 : Nat) : Int)) (some ((5 : Nat) : Int))]) hj (by decide) fun A L K k => ?_).cast ?_⟩
  · refine ft_lit (by decide) (by decide) (by decide) (by decide) (ft_lit (by decide) (by decide) (by decide) (by decide) (ft_lit (by decide) (by decide) (by decide) (by decide) ?_))
    refine ft_pct (e := 4) (wd := -1) (lt := "") (by decide) (by decide) (by decide) (by decide) (fun s => width_none (lv := lv + 6) (by decide) (by decide)) (by decide) (by decide) _ (.inr (.inr (.inr ⟨by decide, by decide, rfl, rfl, ?_⟩))) hj hn
    exact ft_end (by decide) (by decide) k
  · have : Txt.join "" ([] ++ [Txt.item "100%" (0 : Nat)] ++ [Txt.item "100%" (1 : Nat)] ++ [Txt.item "100%" (2 : Nat)] ++ [Txt.slice "100%" (some ((3 : Nat) : Int)) (some ((5 : Nat) : Int))]) = "100%" := by decide
    rw [this]; rfl
theorem fmt_m (hj : st[ja]? = some (.list (avs.map Av.pv))) (hn : avs.length < 100) (hp : path.length ≤ 5000) : ∃ ps, Cl P tabs (lv + 8) (.ref 613) [.str Tp.m.s, .loc ja, .str path] st (.tup [.str (Tp.m.txt path avs), .loc (st.length + 1)]) (st ++ [.list ps, .list ((Tp.m.rest avs).map Av.pv)]) := by
  refine ⟨_, (fmt_wrap (u := 0) (i := 3) (t := "%m.") (ps := [] ++ [path] ++ [Txt.item "%m." (2 : Nat)]) hj (joinOk_few (by show 2 ≤ 20; decide) ?_) fun A L K k => ?_).cast ?_⟩
  · intro p h
    simp at h
    rcases h with rfl | rfl
    · exact hp
    · decide
  · refine ft_pct (e := 1) (wd := -1) (lt := "m") (by decide) (by decide) (by decide) (by decide) (fun s => width_none (lv := lv + 6) (by decide) (by decide)) (by decide) (by decide) _ (.inr (.inl ⟨by decide, by decide, rfl, rfl, ?_⟩)) hj hn
    exact ft_lit (by decide) (by decide) (by decide) (by show 1 < 100; decide) (ft_end (by decide) (by decide) k)
  · rw [List.nil_append, List.singleton_append, join_cons, join_one]; rfl
theorem fmt_d (hj : st[ja]? = some (.list (avs.map Av.pv))) (hn : avs.length < 100) (hv : ∀ v ∈ avs, v.ok) : ∃ ps, Cl P tabs (lv + 8) (.ref 613) [.str Tp.d.s, .loc ja, .str path] st (.tup [.str (Tp.d.txt path avs), .loc (st.length + 1)]) (st ++ [.list ps, .list ((Tp.d.rest avs).map Av.pv)]) := by
  cases avs with
  | nil =>
    refine ⟨_, (fmt_wrap (u := 0) (i := 4) (t := "%0d;") (ps := [] ++ [Txt.slice "%0d;" (some ((0 : Nat) : Int)) (some ((3 : Nat) : Int))] ++ [Txt.item "%0d;" (3 : Nat)]) hj (by decide) fun A L K k => ?_).cast ?_⟩
    · refine ft_pct (e := 2) (wd := 0) (lt := "d") (by decide) (by decide) (by decide) (by decide) (fun s => width_zero (lv := lv + 6) (i := 1) (by decide) (by decide) (by decide) (by decide) (by decide)) (by decide) (by decide) _ (.inr (.inr (.inr ⟨by decide, by decide, no_d, rfl, ?_⟩))) hj hn
      exact ft_lit (by decide) (by decide) (by decide) (by decide) (ft_end (by decide) (by decide) k)
    · have : Txt.join "" ([] ++ [Txt.slice "%0d;" (some ((0 : Nat) : Int)) (some ((3 : Nat) : Int))] ++ [Txt.item "%0d;" (3 : Nat)]) = "%0d;" := by decide
      rw [this]; rfl
  | cons v r =>
    have hvo := hv v List.mem_cons_self
    refine ⟨_, (fmt_wrap (u := 1) (i := 4) (t := "%0d;") (ps := [] ++ [v.shw decF] ++ [Txt.item "%0d;" (3 : Nat)]) hj (joinOk_few (by show 2 ≤ 20; decide) ?_) fun A L K k => ?_).cast ?_⟩
    · intro p h
      simp at h
      rcases h with rfl | rfl
      · exact shw_len decF_len hvo
      · decide
    · refine ft_pct (e := 2) (wd := 0) (lt := "d") (by decide) (by decide) (by decide) (by decide) (fun s => width_zero (lv := lv + 6) (i := 1) (by decide) (by decide) (by decide) (by decide) (by decide)) (by decide) (by decide) _ (.inr (.inr (.inl ⟨by decide, by decide, by decide, has_d, ⟨v, rfl, one_d (lv := lv) hvo⟩, ?_⟩))) hj hn
      exact ft_lit (by decide) (by decide) (by decide) (by show 1 < 100; decide) (ft_end (by decide) (by decide) k)
    · rw [List.nil_append, List.singleton_append, join_cons, join_one]; rfl
theorem fmt_h (hj : st[ja]? = some (.list (avs.map Av.pv))) (hn : avs.length < 100) (hv : ∀ v ∈ avs, v.ok) : ∃ ps, Cl P tabs (lv + 8) (.ref 613) [.str Tp.h.s, .loc ja, .str path] st (.tup [.str (Tp.h.txt path avs), .loc (st.length + 1)]) (st ++ [.list ps, .list ((Tp.h.rest avs).map Av.pv)]) := by
  cases avs with
  | nil =>
    refine ⟨_, (fmt_wrap (u := 0) (i := 5) (t := "<%h%%") (ps := [] ++ [Txt.item "<%h%%" (0 : Nat)] ++ [Txt.slice "<%h%%" (some ((1 : Nat) : Int)) (some ((3 : Nat) : Int))] ++ [("%" : Str)]) hj (by decide) fun A L K k => ?_).cast ?_⟩
    · refine ft_lit (by decide) (by decide) (by decide) (by decide) ?_
      refine ft_pct (e := 2) (wd := -1) (lt := "h") (by decide) (by decide) (by decide) (by decide) (fun s => width_none (lv := lv + 6) (i := 2) (by decide) (by decide)) (by decide) (by decide) _ (.inr (.inr (.inr ⟨by decide, by decide, no_h, rfl, ?_⟩))) hj hn
      refine ft_pct (e := 4) (wd := -1) (lt := "%") (by decide) (by decide) (by decide) (by decide) (fun s => width_none (lv := lv + 6) (i := 4) (by decide) (by decide)) (by decide) (by decide) _ (.inl ⟨by decide, rfl, ?_⟩) hj hn
      exact ft_end (by decide) (by decide) k
    · have : Txt.join "" ([] ++ [Txt.item "<%h%%" (0 : Nat)] ++ [Txt.slice "<%h%%" (some ((1 : Nat) : Int)) (some ((3 : Nat) : Int))] ++ [("%" : Str)]) = "<%h%" := by decide
      rw [this]; rfl
  | cons v r =>
    have hvo := hv v List.mem_cons_self
    refine ⟨_, (fmt_wrap (u := 1) (i := 5) (t := "<%h%%") (ps := [] ++ [Txt.item "<%h%%" (0 : Nat)] ++ [v.shw (pad .h)] ++ [("%" : Str)]) hj (joinOk_few (by show 3 ≤ 20; decide) ?_) fun A L K k => ?_).cast ?_⟩
    · intro p h
      simp at h
      rcases h with rfl | rfl | rfl
      · decide
      · exact shw_len (fun w a sg h1 h2 => pad_len h1 h2) hvo
      · decide
    · refine ft_lit (by decide) (by decide) (by decide) (by decide) ?_
      refine ft_pct (e := 2) (wd := -1) (lt := "h") (by decide) (by decide) (by decide) (by decide) (fun s => width_none (lv := lv + 6) (i := 2) (by decide) (by decide)) (by decide) (by decide) _ (.inr (.inr (.inl ⟨by decide, by decide, by decide, has_h, ⟨v, rfl, one_h (lv := lv) hvo⟩, ?_⟩))) hj hn
      refine ft_pct (e := 4) (wd := -1) (lt := "%") (by decide) (by decide) (by decide) (by show 2 < 100; decide) (fun s => width_none (lv := lv + 6) (i := 4) (by decide) (by decide)) (by decide) (by decide) _ (.inl ⟨by decide, rfl, ?_⟩) hj hn
      exact ft_end (by decide) (by decide) k
    · have : Txt.item "<%h%%" (0 : Nat) = "<" := by decide
      rw [this, List.nil_append, List.singleton_append, List.cons_append, List.singleton_append, join_cons, join_cons, join_one, ← Str.append_assoc]; rfl
theorem fmt_cl (k : Tp) (hj : st[ja]? = some (.list (avs.map Av.pv))) (hn : avs.length < 100) (hv : ∀ v ∈ avs, v.ok) (hp : path.length ≤ 5000) :
    ∃ ps, Cl P tabs (lv + 8) (.ref 613) [.str k.s, .loc ja, .str path] st (.tup [.str (k.txt path avs), .loc (st.length + 1)]) (st ++ [.list ps, .list ((k.rest avs).map Av.pv)]) := by
  cases k with
  | ab => exact fmt_ab hj
  | m => exact fmt_m hj hn hp
  | d => exact fmt_d hj hn hv
  | h => exact fmt_h hj hn hv
  | c => exact fmt_c hj hn
end
end Mine
end
section
open PySem PySem.W PySem.Calls PyProof.Rows PySem.Builtin.Str
set_option Elab.async false
set_option autoImplicit false
set_option linter.all false
set_option maxRecDepth 100000
namespace Mine
inductive Ar where
  | non
  | txt (k : Tp)
  | num (w a : Nat) (sg : Bool)
noncomputable def Ar.av : Ar → Av
  | .non => .non
  | .txt k => .txt k.s
  | .num w a sg => .num w a sg
noncomputable def Ar.ok : Ar → Prop
  | .num w a _ => 1 ≤ w ∧ w ≤ 59 ∧ a < 2 ^ w
  | _ => True
theorem Ar.avok : ∀ {v : Ar}, v.ok → v.av.ok
  | .non, _ => trivial
  | .txt .ab, _ => ⟨by decide, by decide, by decide +kernel⟩
  | .txt .m, _ => ⟨by decide, by decide, by decide +kernel⟩
  | .txt .d, _ => ⟨by decide, by decide, by decide +kernel⟩
  | .txt .h, _ => ⟨by decide, by decide, by decide +kernel⟩
  | .txt .c, _ => ⟨by decide, by decide, by decide +kernel⟩
  | .num _ _ _, h => h
noncomputable def Tp.restA : Tp → List Ar → List Ar
  | .d, _ :: r => r
  | .h, _ :: r => r
  | _, l => l
theorem Tp.restA_map (k : Tp) (l : List Ar) : k.rest (l.map Ar.av) = (k.restA l).map Ar.av := by cases k <;> cases l <;> rfl
theorem Tp.restA_len (k : Tp) (l : List Ar) : (k.restA l).length ≤ l.length := by cases k <;> cases l <;> simp [Tp.restA]
theorem Tp.restA_mem (k : Tp) (l : List Ar) : ∀ v ∈ k.restA l, v ∈ l := by cases k <;> cases l <;> simp [Tp.restA] <;> exact fun v h => .inr h
theorem Tp.txt_len {path : Str} (k : Tp) {l : List Ar} (hp : path.length ≤ 1000) (hl : ∀ v ∈ l, v.ok) : (k.txt path (l.map Ar.av)).length ≤ 6000 := by
  cases k with
  | ab => show 2 ≤ 6000; decide
  | c => show 4 ≤ 6000; decide
  | m => show (_ ++ _ : Str).length ≤ _; rw [Str.length_append]; show _ + 1 ≤ _; omega
  | d => cases l with
    | nil => show 4 ≤ 6000; decide
    | cons v r =>
      have := shw_len decF_len (Ar.avok (hl v List.mem_cons_self))
      show (_ ++ _ : Str).length ≤ _; rw [Str.length_append]; show _ + 1 ≤ _; omega
  | h => cases l with
    | nil => show 4 ≤ 6000; decide
    | cons v r =>
      have : (v.av.shw (pad .h)).length ≤ 5000 := shw_len (fun w a sg h1 h2 => pad_len (k := .h) (sg := sg) h1 h2) (Ar.avok (hl v List.mem_cons_self))
      show (_ ++ _ ++ _ : Str).length ≤ _; rw [Str.length_append, Str.length_append]; show 1 + _ + 1 ≤ _; omega
/-- what is shown -/
noncomputable def disp (r : Rd) (path : Str) : List Ar → Str
  | [] => ""
  | .non :: l => " " ++ disp r path l
  | .num w a sg :: l => pad r w a sg ++ disp r path l
  | .txt .d :: v :: l => v.av.shw decF ++ ";" ++ disp r path l
  | .txt .h :: v :: l => "<" ++ v.av.shw (pad .h) ++ "%" ++ disp r path l
  | .txt k :: l => k.txt path [] ++ disp r path l
theorem disp_txt (r : Rd) (path : Str) (k : Tp) (l : List Ar) : disp r path (.txt k :: l) = k.txt path (l.map Ar.av) ++ disp r path (k.restA l) := by
  cases k <;> cases l <;> rfl
theorem setL {st g : List Cell} {c d : Cell} : (st ++ [c] ++ g).set st.length d = st ++ [d] ++ g := by
  rw [List.append_assoc, List.set_append_right _ _ (Nat.le_refl _), Nat.sub_self]; simp
theorem gM {st g : List Cell} {c : Cell} : (st ++ [c] ++ g)[st.length]? = some c := gL gA
theorem getSet {st g : List Cell} {c d : Cell} {j : Nat} (h : j ≠ st.length) : (st ++ [c] ++ g)[j]? = (st ++ [d] ++ g)[j]? := by
  rw [← setL (c := c) (d := d), List.getElem?_set_ne h.symm]
theorem joinOk_few6 {ps : List Str} (h1 : ps.length ≤ 20) (h2 : ∀ p ∈ ps, p.length ≤ 6000) : JoinOk "" ps = true := by
  refine joinOk_of_weight ?_ (by decide)
  have : ∀ ps : List Str, (∀ p ∈ ps, p.length ≤ 6000) → (ps.map (·.length)).sum ≤ 6000 * ps.length := by
    intro ps
    induction ps with
    | nil => intro _; simp
    | cons p ps ih =>
      intro h
      have a := ih fun q hq => h q (List.mem_cons_of_mem _ hq)
      have b := h p List.mem_cons_self
      rw [List.map_cons, List.sum_cons, List.length_cons]; omega
  have := this ps h2
  omega
section
variable {P : Pg} {lv : Nat} {st : List Cell} {ja : Nat} {as : List Ar} {path : Str} {r : Rd}
theorem display_cl (hj : st[ja]? = some (.list (as.map fun v => v.av.pv))) (hn : as.length ≤ 12) (hv : ∀ v ∈ as, v.ok) (hp : path.length ≤ 1000) :
    Cl P tabs (lv + 9) (.ref 620) [.loc ja, .str r.s, .str path] st (.str (disp r path as)) st := by
  refine cl_drop' ok_display_text (k := 20) rfl rfl (.str _) fun A L => ?_
  conv => arg 4; whnf
  refine ex_assign 3 (ev_list evs_nil (by decide)) ?_
  refine ex_assign 4 (ev_name 0) ?_
  have hja := lt_of_get hj
  refine ex_while (wh_inv (fun m lo s => ∃ (l : List Ar) (ps : List Str) (jr : Nat) (g : List Cell), m = l.length ∧ (∃ x5 x6, lo = [some (.loc ja), some (.str r.s), some (.str path), some (.loc st.length), some (.loc jr), x5, x6]) ∧
    s = st ++ [.list (ps.map .str)] ++ g ∧ jr ≠ st.length ∧ s[jr]? = some (.list (l.map fun v => v.av.pv)) ∧ (∀ v ∈ l, v.ok) ∧ ps.length + l.length ≤ 12 ∧ (∀ p ∈ ps, p.length ≤ 6000) ∧ Txt.join "" ps ++ disp r path l = disp r path as) as.length
    ⟨as, [], ja, [], rfl, ⟨_, _, rfl⟩, by simp, by omega, gL hj, hv, by simpa using hn, by simp, by rw [join_nil, Str.empty_append]⟩ ?_)
  rintro m _ s ⟨l, ps, jr, g, rfl, ⟨x5, x6, rfl⟩, rfl, hne, hl, hlo, hc, hps, ht⟩
  refine ⟨_, _, (tst_cmp (ev_bf 0 3 boot_len (evs_cons (ev_name 4) evs_nil) (cl_lenl hl)) ev_int c_gt).cast (b' := decide (0 < l.length)) ?_, fun h => ?_, fun h => ?_⟩
  · rw [List.length_map, decide_eq_decide]; omega
  · rw [decide_eq_true_eq] at h
    cases l with
    | nil => cases h
    | cons v l =>
    have hvo := hlo v List.mem_cons_self
    have hlo' : ∀ v ∈ l, v.ok := fun q hq => hlo q (List.mem_cons_of_mem _ hq)
    have hc' : ps.length + 1 + l.length ≤ 12 := by rw [List.length_cons] at hc; omega
    refine ex_assign 5 (ev_sub (ev_name 4) ev_int (i_list hl (by decide) rfl)) ?_
    refine ex_assign 4 (ev_lslice (i := some ((1 : Nat) : Int)) (k := none) (ys := l.map fun v => v.av.pv) (ev_name 4) (show PartIs _ _ _ (some _) (some _) from ev_int) trivial hl ?_) ?_
    · intro ρ F vs h
      exact pick_from (n := 1) vs h
    rw [show st ++ [Cell.list (ps.map .str)] ++ g ++ [Cell.list (l.map fun v => v.av.pv)] = st ++ [Cell.list (ps.map .str)] ++ (g ++ [Cell.list (l.map fun v => v.av.pv)]) by rw [List.append_assoc _ g]]
    have hN : (st ++ [Cell.list (ps.map .str)] ++ g).length ≠ st.length := by simp
    have hl2 : ∀ d : Cell, (st ++ [d] ++ (g ++ [Cell.list (l.map fun v => v.av.pv)]))[(st ++ [Cell.list (ps.map .str)] ++ g).length]? = some (.list (l.map fun v => v.av.pv)) := by
      intro d
      rw [← List.append_assoc]
      have : (st ++ [Cell.list (ps.map .str)] ++ g).length = (st ++ [d] ++ g).length := by simp
      rw [this]; exact gA
    -- the piece is appended
    have fin : ∀ (p : Str) (l' : List Ar) (jr' : Nat) (g' : List Cell) (x5 : Option PV), l'.length ≤ l.length → (∀ v ∈ l', v ∈ l) → jr' ≠ st.length → (∀ d : Cell, (st ++ [d] ++ g')[jr']? = some (.list (l'.map fun v => v.av.pv))) → p.length ≤ 6000 → disp r path (v :: l) = p ++ disp r path l' →
        ∃ m', m' < (v :: l).length ∧ ∃ (l : List Ar) (ps' : List Str) (jr : Nat) (g : List Cell), m' = l.length ∧ (∃ y5 y6, [some (.loc ja), some (.str r.s), some (.str path), some (.loc st.length), some (.loc jr'), x5, some (.str p)] = [some (.loc ja), some (.str r.s), some (.str path), some (.loc st.length), some (.loc jr), y5, y6]) ∧
          (st ++ [Cell.list (ps.map .str)] ++ g').set st.length (.list (ps.map .str ++ [.str p])) = st ++ [.list (ps'.map .str)] ++ g ∧ jr ≠ st.length ∧ ((st ++ [Cell.list (ps.map .str)] ++ g').set st.length (.list (ps.map .str ++ [.str p])))[jr]? = some (.list (l.map fun v => v.av.pv)) ∧ (∀ v ∈ l, v.ok) ∧ ps'.length + l.length ≤ 12 ∧ (∀ p ∈ ps', p.length ≤ 6000) ∧ Txt.join "" ps' ++ disp r path l = disp r path as := by
      intro p l' jr' g' x5 h1 h2 h3 h4 h5 h6
      refine ⟨l'.length, by rw [List.length_cons]; omega, l', ps ++ [p], jr', g', rfl, ⟨_, _, rfl⟩, by rw [setL, ps_one], h3, by rw [setL]; exact h4 _, fun v hv => hlo' v (h2 v hv), by rw [List.length_append, List.length_singleton]; omega, ?_, ?_⟩
      · intro q hq
        rcases List.mem_append.mp hq with z | z
        · exact hps q z
        · rw [List.mem_singleton.mp z]; exact h5
      · rw [join_app, join_one, Str.append_assoc, ← h6]; exact ht
    have app : ∀ (g' : List Cell), (st ++ [Cell.list (ps.map .str)] ++ g')[st.length]? = some (.list (ps.map .str)) := fun g' => gM
    have hz : (ps.map PV.str).length < 1000 := by rw [List.length_map]; omega
    cases v with
    | non =>
      refine ex_if_t (tst_cmp (ev_name 5) ev_none (c_isnone (a := .none) (by intro v h; cases h))) ?_
      refine ex_assign 6 ev_str (ex_nil ?_)
      refine ex_expr (ev_append (ev_name 3) (ev_name 6) gM hz ⟨_, gM⟩) (ex_nil ?_)
      exact fin " " l _ _ _ (Nat.le_refl _) (fun _ h => h) hN hl2 (by decide) rfl
    | txt k =>
      refine ex_if_f (tst_cmp (ev_name 5) ev_none (c_isnone (a := .str k.s) (by intro v h; cases h))) ?_
      refine ex_if_t (tst_bool (ev_bf 1 5 boot_isi (evs_cons (ev_name 5) (evs_cons (ev_blt 2 4 boot_str) evs_nil)) cl_isis)) ?_
      have hl3 : (st ++ [Cell.list (ps.map .str)] ++ (g ++ [Cell.list (l.map fun v => v.av.pv)]))[(st ++ [Cell.list (ps.map .str)] ++ g).length]? = some (.list ((l.map Ar.av).map Av.pv)) := by rw [hl2, List.map_map]; rfl
      obtain ⟨qs, hq⟩ := fmt_cl (P := P) (lv := lv) (path := path) k hl3 (by rw [List.length_map]; omega) (by intro v hv; obtain ⟨q, hq, rfl⟩ := List.mem_map.mp hv; exact Ar.avok (hlo' q hq)) (by omega)
      refine ex_unpack (ev_fn 3 19 (evs_cons (ev_name 5) (evs_cons (ev_name 4) (evs_cons (ev_name 2) evs_nil))) hq (Nat.le_refl _)) (.cons 6 rfl (.cons 4 rfl .nil)) (ex_nil (ex_nil ?_))
      rw [List.append_assoc (st ++ [Cell.list (ps.map .str)])]
      refine ex_expr (ev_append (ev_name 3) (ev_name 6) gM hz ⟨_, gM⟩) (ex_nil ?_)
      refine fin (k.txt path (l.map Ar.av)) (k.restA l) _ _ _ (k.restA_len l) (k.restA_mem l) (by simp; omega) (fun d => ?_) (k.txt_len hp hlo') (disp_txt r path k l)
      rw [Tp.restA_map, List.map_map]
      have e1 : (st ++ [Cell.list (ps.map PV.str)] ++ (g ++ [Cell.list (l.map fun v => v.av.pv)])).length + 1 = (st ++ [d] ++ (g ++ [Cell.list (l.map fun v => v.av.pv)] ++ [Cell.list qs])).length := by simp; omega
      rw [e1, show g ++ [Cell.list (l.map fun v => v.av.pv)] ++ [Cell.list qs, Cell.list ((k.restA l).map (Av.pv ∘ Ar.av))] = g ++ [Cell.list (l.map fun v => v.av.pv)] ++ [Cell.list qs] ++ [Cell.list ((k.restA l).map (Av.pv ∘ Ar.av))] by simp, ← List.append_assoc (st ++ [d])]
      exact gA
    | num w a sg =>
      obtain ⟨h1, h2, h3⟩ := hvo
      refine ex_if_f (tst_cmp (ev_name 5) ev_none (c_isnone (a := .tup _) (by intro v h; cases h))) ?_
      refine ex_if_f (tst_bool (ev_bf 1 5 boot_isi (evs_cons (ev_name 5) (evs_cons (ev_blt 2 4 boot_str) evs_nil)) cl_isit)) ?_
      refine ex_assign 6 (ev_fn 4 13 (evs_cons (ev_name 1) (evs_cons (ev_sub (ev_name 5) ev_int (i_tup (by decide) (by decide) rfl)) (evs_cons (ev_sub (ev_name 5) ev_int (i_tup (by decide) (by decide) rfl)) (evs_cons ev_bool evs_nil)))) (padded_cl (lv := lv + 3) h1 h2 h3) (Nat.le_refl _)) (ex_nil (ex_nil ?_))
      refine ex_expr (ev_append (ev_name 3) (ev_name 6) gM hz ⟨_, gM⟩) (ex_nil ?_)
      exact fin (pad r w a sg) l _ _ _ (Nat.le_refl _) (fun _ h => h) hN hl2 (Nat.le_trans (pad_len h2 h3) (by decide)) rfl
  · have h0 : ¬ 0 < l.length := by simpa using h
    have : l = [] := List.length_eq_zero_iff.mp (by omega)
    subst this
    refine ex_ret (ev_join (ts := ps) ev_str (ev_name 3) gM (joinOk_few6 (by omega) hps)) ⟨_, ?_, List.append_assoc _ _ _⟩
    rw [← ht]
    show _ = PV.str (_ ++ Str.empty)
    rw [Str.append_empty]
end
end Mine
end
section
open PySem PySem.W PySem.Calls PyProof.Rows PySem.Builtin.Str
set_option Elab.async false
set_option autoImplicit false
set_option linter.all false
set_option maxRecDepth 100000
namespace Mine
theorem b_fdiv2 {P : Pg} {T : Tabs} {x y : Int} (hy : y ≠ 0) (h : y.natAbs < 2 ^ 60) : BinS P T .FloorDiv (.int x) (.int y) (.int (x.fdiv y)) := by
  intro A s ρ F v u hA G hk hv hu Q hQ; cases hv; cases hu
  exact PyProof.Rows.floordiv_int hy (hQ _ _ (.int _ _)) (.inl (PyProof.noPylong_of_log2 (Nat.lt_trans (small_log h) (by decide))))
theorem b_fmod2 {P : Pg} {T : Tabs} {x y : Int} (hy : y ≠ 0) : BinS P T .Mod (.int x) (.int y) (.int (x.fmod y)) := by
  intro A s ρ F v u hA G hk hv hu Q hQ; cases hv; cases hu
  exact PyProof.Rows.mod_int' hy (hQ _ _ (.int _ _))
theorem powN (b n : Nat) : ((b : Int) ^ n) = ((b ^ n : Nat) : Int) := by simp
section
variable {P : Pg} {lv : Nat} {st : List Cell} {w a : Nat}
theorem figures_cl {b n : Nat} (hb : 2 ≤ b) (hb2 : b ≤ 16) (hn : n ≤ 60) (hbn : b ^ n < 2 ^ 60) : Cl P tabs (lv + 1) (.ref 709) [.int a, .int b, .int n] st (.str (figs a b n)) st := by
  refine cl_def ok_law_figures (k := 31) rfl rfl fun A L => ?_
  conv => arg 4; whnf
  refine ex_assign 3 ev_str ?_
  refine ex_for (it_range (n := n) (ev_blt 0 7 boot_range) (ev_name 2) (by omega) (by omega)) ?_
  rw [Int.toNat_natCast]
  refine fo_inv 4 (fun i lo s => (∃ x, lo = [some (.int a), some (.int b), some (.int n), some (.str (figs a b i)), x]) ∧ s = st) rfl ⟨⟨_, rfl⟩, rfl⟩ ?_ ?_
  · rintro i p _ _ hi ⟨⟨x, rfl⟩, rfl⟩
    have hin : i < n := by have := lt_of_get hi; simpa [upto] using this
    have hp : p = .int (i : Int) := by
      unfold upto at hi
      rw [List.getElem?_map, List.getElem?_range hin] at hi
      simp only [Option.map_some, Option.some.injEq] at hi
      exact hi.symm
    subst hp
    have hd : a / b ^ i % b < 16 := Nat.lt_of_lt_of_le (Nat.mod_lt _ (by omega)) hb2
    have hbi : b ^ i < 2 ^ 60 := Nat.lt_of_le_of_lt (Nat.pow_le_pow_right (by omega) (Nat.le_of_lt hin)) hbn
    have hbp : 0 < b ^ i := Nat.pow_pos (by omega)
    have e1 : ((b : Int) ^ ((i : Nat) : Int).toNat) = ((b ^ i : Nat) : Int) := by rw [Int.toNat_natCast, powN]
    have e2 : Int.fmod (Int.fdiv (a : Int) ((b ^ i : Nat) : Int)) (b : Int) = ((a / b ^ i % b : Nat) : Int) := by rw [fdiv_nat, fmod_nat]
    have hbits : (Builtin.Int.intBits (b : Int) : Int) * (i : Nat) ≤ 2 ^ 27 := by
      have h1 : Builtin.Int.intBits (b : Int) ≤ 64 := PySem.intBits_le_64 (by omega) (by omega)
      have h2 : Builtin.Int.intBits (b : Int) * i ≤ 64 * 60 := Nat.mul_le_mul h1 (by omega)
      have h3 : ((Builtin.Int.intBits (b : Int) * i : Nat) : Int) ≤ ((64 * 60 : Nat) : Int) := by exact_mod_cast h2
      rw [Int.natCast_mul] at h3
      exact Int.le_trans h3 (by decide)
    refine ex_assign 3 (ev_bin (ev_sub ev_str (ev_bin (ev_bin (ev_name 0) (ev_bin (ev_name 1) (ev_name 4) (b_pow (Int.natCast_nonneg _) hbits)) (b_fdiv2 (by rw [e1]; omega) (by rw [e1]; omega))) (ev_name 1) (b_fmod2 (by omega))) (i_str ?_ ?_ ?_)) (ev_name 3) (b_cat ?_)) ?_
    · rw [e1, e2]; exact fits_small (by omega)
    · rw [e1, e2]; exact Int.le_trans (by decide) (Int.natCast_nonneg _)
    · rw [e1, e2]; show _ < ((16 : Nat) : Int); omega
    · rw [figs_len, e1, e2, item_hex hd, sizeLine_eq]; show 1 + _ ≤ _; omega
    · rw [e1, e2, item_hex hd]
      exact ex_nil ⟨⟨_, rfl⟩, rfl⟩
  · rintro lo s ⟨⟨x, rfl⟩, rfl⟩
    refine ex_ret (ev_name 3) ⟨?_, rfl⟩
    simp [upto]
theorem toI_ge {sg : Bool} (h1 : 1 ≤ w) (ha : a < 2 ^ w) : toI w a sg = if (sg && decide (((2 ^ (w - 1) : Nat) : Int) ≤ (a : Int))) = true then (a : Int) - ((2 ^ w : Nat) : Int) else a := by
  unfold toI
  rw [pow_nat]
  have hp : 2 ^ w = 2 ^ (w - 1) * 2 := by rw [← Nat.pow_succ]; congr 1; omega
  have : (a / 2 ^ (w - 1) == 1) = decide (((2 ^ (w - 1) : Nat) : Int) ≤ (a : Int)) := by
    have hpos : 0 < 2 ^ (w - 1) := Nat.two_pow_pos _
    rw [Bool.eq_iff_iff, beq_iff_eq, decide_eq_true_eq]
    constructor
    · intro h
      have : 2 ^ (w - 1) ≤ a := by
        rcases Nat.lt_or_ge a (2 ^ (w - 1)) with q | q
        · rw [Nat.div_eq_of_lt q] at h; cases h
        · exact q
      exact_mod_cast this
    · intro h
      have h' : 2 ^ (w - 1) ≤ a := by exact_mod_cast h
      exact Nat.div_eq_of_lt_le (by omega) (by omega)
  rw [this]
theorem mul_sp (k : Nat) : Txt.mul " " (k : Int) = ⟨Array.replicate k 32⟩ := by
  have key : ∀ (k : Nat) (acc : Array Nat), (List.replicate k (#[32] : Array Nat)).foldl (· ++ ·) acc = acc ++ Array.replicate k 32 := by
    intro k
    induction k with
    | zero => intro acc; simp
    | succ k ih => intro acc; rw [List.replicate_succ, List.foldl_cons, ih]; apply Array.ext'; simp [List.replicate_succ]
  unfold Txt.mul
  by_cases h : (k : Int) < 1
  · rw [if_pos h]
    have : k = 0 := by omega
    subst this; rfl
  · rw [if_neg h]
    by_cases h1 : ((k : Int) == 1 || (" " : Str).length == 0) = true
    · rw [if_pos h1]
      have : k = 1 := by
        rw [Bool.or_eq_true] at h1
        rcases h1 with q | q
        · have := beq_iff_eq.mp q; omega
        · cases q
      subst this; rfl
    · rw [if_neg h1, Int.toNat_natCast]
      have e : (" " : Str).cps = #[32] := rfl
      rw [e, key]; congr 1; simp
theorem mul_neg {n : Int} (h : n < 1) : Txt.mul " " n = Str.empty := if_pos h
theorem pad_eq (x : Str) (n : Nat) : Txt.mul " " ((n : Int) - (x.length : Nat)) ++ x = Txt.rjust x (n : Int) := by
  unfold Txt.rjust
  by_cases h : (n : Int) ≤ (x.length : Nat)
  · rw [if_pos h, mul_neg (by omega), Str.empty_append]
  · rw [if_neg h]
    have e : (n : Int) - (x.length : Nat) = ((n - x.length : Nat) : Int) := by omega
    rw [e, mul_sp, Int.toNat_natCast]
    apply Str.ext'
    unfold padded
    show Array.replicate _ 32 ++ x.cps = _
    simp
theorem mulOk_sp {n : Int} (h0 : -5000 ≤ n) (h : n ≤ 5000) : MulOk " " n := by
  have e : (" " : Str).length = 1 := rfl
  unfold MulOk
  rw [e]
  refine ⟨?_, fun h1 _ => ?_, fun h1 _ => ?_⟩
  · rw [Bool.or_eq_false_iff, decide_eq_false_iff_not, decide_eq_false_iff_not]; omega
  · have : (1 : Int) ≤ (2 ^ 63 - 1) / n := by
      rw [Int.le_ediv_iff_mul_le (by omega)]; omega
    show ¬ ((1 : Nat) : Int) > _
    omega
  · unfold tooLong
    rw [sizeLine_eq]
    simp
    omega
theorem bits2 {n : Nat} (h : n ≤ 60) : (Builtin.Int.intBits (2 : Int) : Int) * (n : Nat) ≤ 2 ^ 27 := by
  have : (Builtin.Int.intBits (2 : Int) : Int) ≤ 64 := by exact_mod_cast PySem.intBits_le_64 (by decide) (by decide)
  have h3 := Int.mul_le_mul this (show ((n : Nat) : Int) ≤ 60 by omega) (by omega) (by decide)
  exact Int.le_trans h3 (by decide)
theorem ev_pow2 {C : Cx} {lo : List (Option PV)} {st : List Cell} {e : Expr} {kk : Nat} {p pos : Pos} {n : Nat} {y : Int} (he : Ev C lo st e (.int y) st) (hy : y = n) (hn : n ≤ 60) : Ev C lo st (.BinOp (.Constant (.int 2) kk p) .Pow e pos) (.int ((2 ^ n : Nat) : Int)) st := by
  subst hy
  refine (ev_bin ev_int he (b_pow (Int.natCast_nonneg _) (bits2 hn))).cast ?_
  rw [Int.toNat_natCast, pow_nat]
theorem number_cl {r : Rd} {sg : Bool} (h1 : 1 ≤ w) (hw : w ≤ 56) (ha : a < 2 ^ w) : Cl P tabs (lv + 2) (.ref 716) [.str r.s, .int w, .int a, .bool sg] st (.str (pad r w a sg)) st := by
  refine cl_def ok_law_number (k := 32) rfl rfl fun A L => ?_
  conv => arg 4; whnf
  have dv : ∀ (m k : Nat), Int.fdiv ((w : Int) + (m : Nat)) (k : Nat) = (((w + m) / k : Nat) : Int) := fun m k => by rw [← fdiv_nat]; simp
  have sm : ∀ n, n ≤ 56 → 2 ^ n ≤ 2 ^ 56 := fun n h => Nat.pow_le_pow_right (by decide) h
  cases r with
  | b =>
    refine ex_if_t ((tst_cmp (ev_name 0) ev_str c_eqs).cast (by decide)) ?_
    exact ex_ret (ev_fn 0 31 (evs_cons (ev_name 2) (evs_cons ev_int (evs_cons (ev_name 1) evs_nil))) (figures_cl (lv := lv) (b := 2) (by decide) (by decide) (by omega) (by have := sm w hw; omega)) (Nat.le_refl _)) ⟨rfl, rfl⟩
  | o =>
    refine ex_skip ((tst_cmp (ev_name 0) ev_str c_eqs).cast (by decide)) ?_
    refine ex_if_t ((tst_cmp (ev_name 0) ev_str c_eqs).cast (by decide)) ?_
    have hb : 8 ^ ((w + 2) / 3) < 2 ^ 60 := by
      rw [show 8 = 2 ^ 3 from rfl, ← Nat.pow_mul]; exact Nat.pow_lt_pow_right (by decide) (by omega)
    exact ex_ret (ev_fn 0 31 (evs_cons (ev_name 2) (evs_cons ev_int (evs_cons (ev_bin (ev_bin (ev_name 1) ev_int b_add) ev_int (b_fdiv2 (by decide) (by decide))) evs_nil))) (by rw [show ((w : Int) + 2) = (w : Int) + ((2 : Nat) : Int) from rfl, show (3 : Int) = ((3 : Nat) : Int) from rfl, dv 2 3]; exact figures_cl (lv := lv) (b := 8) (by decide) (by decide) (by omega) hb) (Nat.le_refl _)) ⟨rfl, rfl⟩
  | h =>
    refine ex_skip ((tst_cmp (ev_name 0) ev_str c_eqs).cast (by decide)) ?_
    refine ex_skip ((tst_cmp (ev_name 0) ev_str c_eqs).cast (by decide)) ?_
    refine ex_if_t ((tst_cmp (ev_name 0) ev_str c_eqs).cast (by decide)) ?_
    have hb : 16 ^ ((w + 3) / 4) < 2 ^ 60 := by
      rw [show 16 = 2 ^ 4 from rfl, ← Nat.pow_mul]; exact Nat.pow_lt_pow_right (by decide) (by omega)
    exact ex_ret (ev_fn 0 31 (evs_cons (ev_name 2) (evs_cons ev_int (evs_cons (ev_bin (ev_bin (ev_name 1) ev_int b_add) ev_int (b_fdiv2 (by decide) (by decide))) evs_nil))) (by rw [show ((w : Int) + 3) = (w : Int) + ((3 : Nat) : Int) from rfl, show (4 : Int) = ((4 : Nat) : Int) from rfl, dv 3 4]; exact figures_cl (lv := lv) (b := 16) (by decide) (by decide) (by omega) hb) (Nat.le_refl _)) ⟨rfl, rfl⟩
  | d =>
    refine ex_skip ((tst_cmp (ev_name 0) ev_str c_eqs).cast (by decide)) ?_
    refine ex_skip ((tst_cmp (ev_name 0) ev_str c_eqs).cast (by decide)) ?_
    refine ex_skip ((tst_cmp (ev_name 0) ev_str c_eqs).cast (by decide)) ?_
    refine ex_assign 4 (r := .int (toI w a sg)) (st1 := st) (ev_ifexp (st1 := st) (tst_and2 (tst_bool (ev_name 3)) fun _ => tst_cmp (ev_name 2) (ev_pow2 (n := w - 1) (ev_bin (ev_name 1) ev_int b_sub) (by omega) (by omega)) c_ge) (fun h => ?_) fun h => ?_) ?_
    · rw [toI_ge h1 ha, if_pos h]; exact ev_bin (ev_name 2) (ev_pow2 (n := w) (ev_name 1) rfl (by omega)) b_sub
    · rw [toI_ge h1 ha, if_neg (by rw [h]; decide)]; exact ev_name 2
    refine ex_skip ((tst_cmp (ev_name 0) ev_str c_eqs).cast (by decide)) ?_
    have ht : (toI w a sg).natAbs < 2 ^ 60 := by have := toI_small (sg := sg) (by omega : w ≤ 59) ha; omega
    have lt := dec_len ht
    have p1 := sm (w - 1) (by omega)
    have p2 := sm w hw
    have ld1 := dec_len (x := ((2 ^ (w - 1) : Nat) : Int)) (nab p1 (by decide))
    have ld2 := dec_len (x := ((2 ^ w - 1 : Nat) : Int)) (by omega)
    refine ex_assign 5 (r := .str (if sg = true then "-" ++ dec ((2 ^ (w - 1) : Nat) : Int) else dec ((2 ^ w - 1 : Nat) : Int))) (st1 := st) (ev_ifexp (st1 := st) (tst_bool (ev_name 3)) (fun h => ?_) fun h => ?_) ?_
    · rw [if_pos h]; exact ev_joined2 ev_str (ev_fint (ev_pow2 (n := w - 1) (ev_bin (ev_name 1) ev_int b_sub) (by omega) (by omega)) (small_log (nab p1 (by decide)))) (by show 1 + (dec _).length ≤ _; omega)
    · rw [if_neg (by rw [h]; decide)]
      have e : ((2 ^ w : Nat) : Int) - 1 = ((2 ^ w - 1 : Nat) : Int) := by have := Nat.two_pow_pos w; omega
      refine ev_joined1 (ev_fint (i := ((2 ^ w - 1 : Nat) : Int)) ?_ (small_log (by omega)))
      rw [← e]; exact ev_bin (ev_pow2 (n := w) (ev_name 1) rfl (by omega)) ev_int b_sub
    obtain ⟨lg, elg, hlg⟩ : ∃ lg : Str, (if sg = true then "-" ++ dec ((2 ^ (w - 1) : Nat) : Int) else dec ((2 ^ w - 1 : Nat) : Int)) = lg ∧ lg.length = dwid w sg := by
      refine ⟨_, rfl, ?_⟩
      unfold dwid
      cases sg with
      | true => rw [if_pos rfl, if_pos rfl, Str.length_append]; show 1 + _ = _; omega
      | false => rw [if_neg (by decide), if_neg (by decide)]
    rw [elg]
    refine ex_assign 6 (ev_joined1 (ev_fint (ev_name 4) (small_log ht))) ?_
    have dl := dwid_le (sg := sg) (by omega : w ≤ 59)
    refine ex_ret (ev_bin (ev_bin ev_str (ev_bin (ev_bf 1 3 boot_len (evs_cons (ev_name 5) evs_nil) (cl_lens (by omega))) (ev_bf 1 3 boot_len (evs_cons (ev_name 6) evs_nil) (cl_lens (by show (dec _).length < _; omega))) b_sub) (b_rep (mulOk_sp ?_ ?_))) (ev_name 6) (b_cat ?_)) ⟨?_, rfl⟩
    · show _ ≤ ((lg.length : Nat) : Int) - ((dec (toI w a sg)).length : Nat); omega
    · show ((lg.length : Nat) : Int) - ((dec (toI w a sg)).length : Nat) ≤ _; omega
    · have := congrArg Str.length (pad_eq (dec (toI w a sg)) lg.length)
      rw [Str.length_append] at this
      have h2 := rjust_len (dec (toI w a sg)) (lg.length : Nat)
      rw [sizeLine_eq]
      show (Txt.mul " " (((lg.length : Nat) : Int) - ((dec (toI w a sg)).length : Nat))).length + (dec (toI w a sg)).length ≤ _
      omega
    · show PV.str (Txt.mul " " (((lg.length : Nat) : Int) - ((dec (toI w a sg)).length : Nat)) ++ dec (toI w a sg)) = _
      rw [pad_eq, hlg]; rfl
theorem number_short {sg : Bool} (h1 : 1 ≤ w) (hw : w ≤ 56) (ha : a < 2 ^ w) : Cl P tabs (lv + 2) (.ref 716) [.str "short", .int w, .int a, .bool sg] st (.str (dec (toI w a sg))) st := by
  refine cl_def ok_law_number (k := 32) rfl rfl fun A L => ?_
  conv => arg 4; whnf
  refine ex_skip ((tst_cmp (ev_name 0) ev_str c_eqs).cast (by decide)) ?_
  refine ex_skip ((tst_cmp (ev_name 0) ev_str c_eqs).cast (by decide)) ?_
  refine ex_skip ((tst_cmp (ev_name 0) ev_str c_eqs).cast (by decide)) ?_
  refine ex_assign 4 (r := .int (toI w a sg)) (st1 := st) (ev_ifexp (st1 := st) (tst_and2 (tst_bool (ev_name 3)) fun _ => tst_cmp (ev_name 2) (ev_pow2 (n := w - 1) (ev_bin (ev_name 1) ev_int b_sub) (by omega) (by omega)) c_ge) (fun h => ?_) fun h => ?_) ?_
  · rw [toI_ge h1 ha, if_pos h]; exact ev_bin (ev_name 2) (ev_pow2 (n := w) (ev_name 1) rfl (by omega)) b_sub
  · rw [toI_ge h1 ha, if_neg (by rw [h]; decide)]; exact ev_name 2
  have ht : (toI w a sg).natAbs < 2 ^ 60 := by have := toI_small (sg := sg) (by omega : w ≤ 59) ha; omega
  refine ex_if_t ((tst_cmp (ev_name 0) ev_str c_eqs).cast (by decide)) ?_
  exact ex_ret (ev_joined1 (ev_fint (ev_name 4) (small_log ht))) ⟨rfl, rfl⟩
noncomputable def rOf (name stem : Str) : Option Rd := if (name == stem ++ "b") = true then some .b else if (name == stem ++ "o") = true then some .o else if (name == stem ++ "h") = true then some .h else if (name == stem) = true then some .d else none
noncomputable def rPV : Option Rd → PV
  | some r => .str r.s
  | none => .none
theorem radix_cl {name stem : Str} (hs : stem.length ≤ 1000) : Cl P tabs (lv + 1) (.ref 627) [.str name, .str stem] st (rPV (rOf name stem)) st := by
  refine cl_def ok_shown_radix (k := 21) rfl rfl fun A L => ?_
  conv => arg 4; whnf
  refine ex_for (it_tup (ev_tuple (evs_cons ev_str (evs_cons ev_str (evs_cons ev_str evs_nil))) (Nat.le_of_ble_eq_true rfl))) ?_
  have hc : ∀ x : Str, x.length = 1 → stem.length + x.length ≤ sizeLine := fun x h => by rw [sizeLine_eq]; omega
  refine fo_step 2 rfl (ex_if (tst_cmp (ev_name 0) (ev_bin (ev_name 1) (ev_name 2) (b_cat (hc _ rfl))) c_eqs) (fun h => ex_ret (ev_name 2) ⟨?_, rfl⟩) fun h0 => ex_nil (ex_nil ?_))
  · unfold rOf; rw [if_pos h]; rfl
  refine fo_step 2 rfl (ex_if (tst_cmp (ev_name 0) (ev_bin (ev_name 1) (ev_name 2) (b_cat (hc _ rfl))) c_eqs) (fun h => ex_ret (ev_name 2) ⟨?_, rfl⟩) fun h1 => ex_nil (ex_nil ?_))
  · unfold rOf; rw [if_neg (by rw [h0]; decide), if_pos h]; rfl
  refine fo_step 2 rfl (ex_if (tst_cmp (ev_name 0) (ev_bin (ev_name 1) (ev_name 2) (b_cat (hc _ rfl))) c_eqs) (fun h => ex_ret (ev_name 2) ⟨?_, rfl⟩) fun h2 => ex_nil (ex_nil ?_))
  · unfold rOf; rw [if_neg (by rw [h0]; decide), if_neg (by rw [h1]; decide), if_pos h]; rfl
  refine fo_nil ?_
  refine ex_if (tst_cmp (ev_name 0) (ev_name 1) c_eqs) (fun h => ex_ret ev_str ⟨?_, rfl⟩) fun h3 => ex_nil (ex_ret ev_none ⟨?_, rfl⟩)
  · unfold rOf; rw [if_neg (by rw [h0]; decide), if_neg (by rw [h1]; decide), if_neg (by rw [h2]; decide), if_pos h]; rfl
  · unfold rOf; rw [if_neg (by rw [h0]; decide), if_neg (by rw [h1]; decide), if_neg (by rw [h2]; decide), if_neg (by rw [h3]; decide)]; rfl
end
end Mine
end
section
open PySem PySem.W PySem.Calls PyProof.Rows PySem.Builtin.Str
set_option Elab.async false
set_option autoImplicit false
set_option linter.all false
set_option maxRecDepth 100000
namespace Mine

section
variable {prog : Program} {w : World} {A : Around} {E : Value → Shared → Prop} {s : Shared} {env : Env}
theorem Call_meth_any {o : Expr} {name : Str} {apos pos : Pos} {args : List Expr} {Q : Value → Shared → Prop}
    (hbase : attributeBase o name env (eval o env) = eval o env)
    (hfew : ((backTo pos (starEach args env)).all (fun x => !x.1) && (backToKw pos (keywordEach [] env)).all (fun x => x.1.isSome)
      && decide (args.length + ([] : List Keyword).length + (if ([] : List Keyword).isEmpty then 0 else 1) < 30)) = true)
    (hline : (apos.endLine == pos.line) = true)
    (h : wpAny (model prog w) A (eval o env) (fun ov s₁ => ∀ pl, wpAny (model prog w) A (getMethod ov name pl) (fun p s2 => wpAny (model prog w) A (callWith pos p.1 p.2 (backTo pos (starEach args env)) []) Q E s2) E s₁) E s) :
    wpAny (model prog w) A (eval (.Call (.Attribute o name apos) args [] pos) env) Q E s := by
  rw [arm_eval_Call, hbase]
  refine wpAny_bind (wpAny_mono h (fun ov s₁ h₁ => ?_) fun _ _ e => e)
  refine wpAny_bind (wpAny_standAt ?_)
  have hform : methodCallForm (args.length + ([] : List Keyword).length) (backTo pos (starEach args env)) (backToKw pos (keywordEach [] env)) = true := hfew
  have hpos : methodCallPos true o env apos pos = pure pos := by unfold methodCallPos; simp [hline]
  unfold methodCall
  rw [hform]
  refine wpAny_bind (wpAny_holding (wpAny_mono (h₁ _) (fun p s2 h2 => ?_) fun _ _ e => e))
  exact wpAny_bind (wpAny_of_eq hpos h2)
end

/-! ### all the objects but some -/
noncomputable def allBut (h : Heap) (L d : Addr) : List (Addr × Obj) := (List.range h.objs.size).filterMap fun b => if b = L ∨ b = d then none else (h.get? b).map fun o => (b, o)
theorem allBut_mem {h : Heap} {L d b : Addr} {o : Obj} : (b, o) ∈ allBut h L d ↔ b ≠ L ∧ b ≠ d ∧ h.get? b = some o := by
  unfold allBut
  rw [List.mem_filterMap]
  constructor
  · rintro ⟨c, hc, e⟩
    split at e
    · cases e
    · rename_i hn
      cases q : h.get? c with
      | none => rw [q] at e; cases e
      | some o' =>
        rw [q] at e
        simp only [Option.map_some, Option.some.injEq, Prod.mk.injEq] at e
        obtain ⟨rfl, rfl⟩ := e
        exact ⟨fun z => hn (.inl z), fun z => hn (.inr z), q⟩
  · rintro ⟨h1, h2, h3⟩
    refine ⟨b, List.mem_range.mpr (Heap.lt_size h3), ?_⟩
    rw [if_neg (by rintro (z | z); exact h1 z; exact h2 z), h3]; rfl
noncomputable def h00 : Heap := {}
theorem h00_none (a : Addr) : h00.get? a = none := Heap.get?_none_of_le (Nat.zero_le _)
theorem fr00 {L : Addr} {h : Heap} {m : Str → Option Value} (hn : h.Ns L m) : Fr h00 L h m := ⟨hn, (fun b o e => by rw [h00_none] at e; cases e), Nat.zero_le _⟩
theorem news00 {h : Heap} {L d : Addr} {od : Obj} (hd : h.get? d = some od) (hL : d ≠ L) : News h00 L h (allBut h L d ++ (d, od) :: []) := fun p hp => by
  rcases List.mem_append.mp hp with q | q
  · obtain ⟨h1, h2, h3⟩ := allBut_mem.mp q
    exact ⟨h3, h1, h00_none _⟩
  · rw [List.mem_singleton.mp q]; exact ⟨hd, hL, h00_none _⟩
theorem newsA {h : Heap} {L : Addr} (x : Addr) (hx : h.get? x = none) : News h00 L h (allBut h L x) := fun p hp => by
  obtain ⟨h1, h2, h3⟩ := allBut_mem.mp hp
  exact ⟨h3, h1, h00_none _⟩

section
variable {C : Cx} {lo : List (Option PV)} {st st1 st2 st3 : List Cell} {pos : Pos} {a b c r p : PV} {K : Out → Prop} {rest : List Stmt} {x : Str} {px : Pos} {body : List Stmt} {items xs : List PV} {j : Nat}
/-- a cell is turned, the locals' frame told by its names -/
theorem Sim.turn {ρ : List Addr} {F : Frz} {h h' : Heap} {i : Nat} {a : Addr} {c : Cell} (S : Sim C lo st ρ F h) (hi : ρ[i]? = some a) (hc : CellAt ρ F h' a c) (hk : ∀ b q, b ≠ a → b ≠ C.env.locals → h.get? b = some q → h'.get? b = some q)
    {m : Str → Option Value} (hn' : h'.Ns C.env.locals m) (hm : ∀ (i : Nat) (x : Str), C.keys[i]? = some x → LocAt ρ F (m x) lo[i]?) : Sim C lo (st.set i c) ρ F h' := by
  have haL : a ≠ C.env.locals := fun q => S.L2 (q ▸ List.mem_of_getElem? hi)
  have SF : SimS C.P st ρ F h := S.s
  have key : SimS C.P (st.set i c) ρ F h' := by
    refine ⟨fun b q e => hk b q (fun z => ?_) (fun z => ?_) (SF.fin b q e), SF.gnd, SF.nod, SF.off, by simp [SF.len], SF.tb, fun j c' e => ?_⟩
    · rw [z, SF.off a (List.mem_of_getElem? hi)] at e; cases e
    · rw [z, S.L1] at e; cases e
    · by_cases q : i = j
      · subst q
        have hj : i < st.length := SF.len ▸ lt_of_get hi
        rw [List.getElem?_set_self hj] at e
        cases e; exact ⟨a, hi, hc⟩
      · rw [List.getElem?_set_ne q] at e
        obtain ⟨b, e1, k⟩ := SF.cells j c' e
        refine ⟨b, e1, k.mono (List.prefix_refl _) (FLe.refl _) fun o z => hk b o (fun y => ?_) (fun y => ?_) z⟩
        · subst y
          exact q ((List.getElem?_inj (lt_of_get hi) SF.nod).mp (hi.trans e1.symm))
        · exact S.L2 (y ▸ List.mem_of_getElem? e1)
  exact ⟨S.good, key, S.L1, S.L2, S.len, S.cel, m, hn', hm⟩

/-! ### names of kind cell and free -/
theorem ev_cname (i : Nat) (hx : C.ckeys[i]? = some (x, j) := by rfl) (hj : st[j]? = some (.cell (some p)) := by rfl) (hd : (x == ("__debug__" : Str)) = false := by decide) (hcd : (x == ("__classdict__" : Str)) = false := by decide) : Ev C lo st (.Name x pos) p st := by
  refine .mk fun s ρ F S Q hQ => ?_
  obtain ⟨a, e1, e2⟩ := S.cel _ (List.mem_of_getElem? hx)
  obtain ⟨a', e3, o, v, ho, hdv, rv⟩ := S.s.cells j _ hj
  rw [e2] at e3; cases e3
  have hc : s.heap.IsCell a (some v) := ⟨o, ho, hdv⟩
  have q := hQ v s.heap s.toks ρ F rv S (List.prefix_refl _) (FLe.refl _)
  rcases S.good.cks _ (List.mem_of_getElem? hx) with k | k
  · exact wpAny_Name (wpAny_loadName_cell S.good.kind k e1 hc q) hd
  · exact wpAny_Name (wpAny_loadName_free S.good.kind k e1 hc q hcd) hd
theorem Sim.storeCell {A : Around} {s : Shared} {ρ : List Addr} {F : Frz} {E : Value → Shared → Prop} (S : Sim C lo st ρ F s.heap) {i : Nat} {v : Value} {v0 : Option PV} (hx : C.ckeys[i]? = some (x, j)) (hj : st[j]? = some (.cell v0)) (hk : C.env.kindOf x = some .cell) (hv : Rep ρ F v p) {Q : Unit → Shared → Prop}
    (h : ∀ h' tk, Sim C lo (st.set j (.cell (some p))) ρ F h' → Q () (Rest s h' tk)) : wpAny (model C.P.prog C.P.w) A (PySem.storeName C.env x v) Q E s := by
  obtain ⟨a, e1, e2⟩ := S.cel _ (List.mem_of_getElem? hx)
  obtain ⟨a', e3, k⟩ := S.s.cells j _ hj
  rw [e2] at e3; cases e3
  have hc : ∃ v0', s.heap.IsCell a v0' := by
    cases v0 with
    | none => obtain ⟨o, ho, hd⟩ := k; exact ⟨_, o, ho, hd⟩
    | some q => obtain ⟨o, v, ho, hd, _⟩ := k; exact ⟨_, o, ho, hd⟩
  obtain ⟨v0', hc⟩ := hc
  refine wpAny_storeName_cell S.good.kind hk e1 hc fun h' hc' hs => h h' s.toks (S.setCell e2 ?_ fun b o hb e => (hs.2 b hb).trans e)
  obtain ⟨o', ho', hd'⟩ := hc'
  exact ⟨o', v, ho', hd', hv⟩
theorem ex_cassign {p' : Pos} {e : Expr} {v0 : Option PV} (i : Nat) (he : Ev C lo st e r st1) (hj : st1[j]? = some (.cell v0)) (k : Ex C lo (st1.set j (.cell (some r))) rest K)
    (hx : C.ckeys[i]? = some (x, j) := by rfl) (hk : C.env.kindOf x = some .cell := by rfl) (hs : swapsWith e (some (.Name x p')) pos.line C.env = pure false := by rfl) : Ex C lo st (.Assign [.Name x p'] e pos :: rest) K := by
  refine ex_cons fun s ρ F S Q hQ => ?_
  refine wpAny_Assign_Name (he.run s ρ F S _ fun v h1 t1 ρ1 F1 r1 S1 p1 f1 => ?_) hs
  exact S1.storeCell hx hj hk r1 fun h' tk S2 => hQ (.next _ _) k _ h' tk ρ1 F1 ⟨rfl, S2⟩ p1 f1
end
end Mine
end
section
open PySem PySem.W PySem.Calls PyProof.Rows PySem.Builtin.Str
set_option Elab.async false
set_option autoImplicit false
set_option linter.all false
set_option maxRecDepth 100000
namespace Mine
noncomputable def dfind (name : Str) : List (Str × PV) → Option PV
  | [] => none
  | x :: r => if x.1 == name then some x.2 else dfind name r
noncomputable def dput (name : Str) (p : PV) : List (Str × PV) → List (Str × PV)
  | [] => [(name, p)]
  | x :: r => if x.1 == name then (x.1, p) :: r else x :: dput name p r
theorem DictRep.length {ρ : List Addr} {F : Frz} : ∀ {es : List DictEntry} {xs : List (Str × PV)}, DictRep ρ F es xs → es.length = xs.length
  | [], [], _ => rfl
  | _ :: _, _ :: _, ⟨_, _, c⟩ => by rw [List.length_cons, List.length_cons, DictRep.length c]
  | [], _ :: _, h => h.elim
  | _ :: _, [], h => h.elim
theorem DictRep.noref {ρ : List Addr} {F : Frz} : ∀ {es : List DictEntry} {xs : List (Str × PV)}, DictRep ρ F es xs → es.any (·.refKey) = false
  | [], [], _ => rfl
  | e :: _, _ :: _, ⟨⟨t, a⟩, _, c⟩ => by
    rw [List.any_cons, DictRep.noref c]
    obtain ⟨hh, k, v⟩ := e
    cases a; rfl
  | [], _ :: _, h => h.elim
  | _ :: _, [], h => h.elim
theorem DictRep.get {ρ : List Addr} {F : Frz} {name : Str} : ∀ {es : List DictEntry} {xs : List (Str × PV)}, DictRep ρ F es xs → ∀ {p : PV}, dfind name xs = some p → ∃ e, es.find? (·.key.isStr name) = some e ∧ Rep ρ F e.val p
  | [], [], _, p, h => by cases h
  | e :: es, x :: xs, ⟨⟨t, a⟩, b, c⟩, p, h => by
    have hk : e.key.isStr name = (x.1 == name) := by rw [a]; rfl
    rw [List.find?_cons, hk]
    unfold dfind at h
    cases q : x.1 == name with
    | true => rw [q] at h; cases h; exact ⟨e, rfl, b⟩
    | false => rw [q] at h; exact DictRep.get c h
  | [], _ :: _, h, _, _ => h.elim
  | _ :: _, [], h, _, _ => h.elim
theorem DictRep.getL {ρ : List Addr} {F : Frz} {name : Str} {es : List DictEntry} {xs : List (Str × PV)} (d : DictRep ρ F es xs) {p : PV} (h : dfind name xs = some p) : ∃ v, W.getL name es = some (some v) ∧ Rep ρ F v p := by
  obtain ⟨e, h1, h2⟩ := d.get h
  exact ⟨e.val, by unfold W.getL; rw [h1], h2⟩
theorem DictRep.sure {ρ : List Addr} {F : Frz} {name : Str} {es : List DictEntry} {xs : List (Str × PV)} (d : DictRep ρ F es xs) : (W.getL name es).isSome = true := by
  unfold W.getL
  split
  · rfl
  · rw [d.noref]; rfl
theorem DictRep.put {ρ : List Addr} {F : Frz} {name : Str} {hsh : Int} {t : Tok} {v : Value} {p : PV} (hv : Rep ρ F v p) : ∀ {es : List DictEntry} {xs : List (Str × PV)}, DictRep ρ F es xs → DictRep ρ F (putL name hsh (.str name t) v es) (dput name p xs)
  | [], [], _ => ⟨⟨t, rfl⟩, hv, trivial⟩
  | e :: es, x :: xs, ⟨⟨u, a⟩, b, c⟩ => by
    have hk : e.key.isStr name = (x.1 == name) := by rw [a]; rfl
    unfold putL dput
    rw [hk]
    cases q : x.1 == name with
    | true => exact ⟨⟨u, a⟩, hv, c⟩
    | false => exact ⟨⟨u, a⟩, b, DictRep.put hv c⟩
  | [], _ :: _, h => h.elim
  | _ :: _, [], h => h.elim
noncomputable def NotVal (p : PV) : Prop := ∀ v, p ≠ .val v
theorem Rep.handed {ρ : List Addr} {F : Frz} {v : Value} {p : PV} (h : Rep ρ F v p) (hp : NotVal p) : handedIn v = true := by
  cases h <;> first | rfl | exact absurd rfl (hp _)
section
variable {C : Cx} {lo : List (Option PV)} {st st1 st2 st3 : List Cell} {pos : Pos} {a b c r p : PV} {K : Out → Prop} {rest : List Stmt} {x : Str} {px : Pos} {body : List Stmt} {items xs : List PV} {i j : Nat} {es : List (Str × PV)} {name : Str}
theorem Sim.inst {ρ : List Addr} {F : Frz} {h : Heap} (S : Sim C lo st ρ F h) {ax : Addr} (ha : ρ[i]? = some ax) (hi : st[i]? = some (.inst thr j)) (hj : st[j]? = some (.dict es)) :
    ∃ d ds n, ρ[j]? = some d ∧ DictRep ρ F ds es ∧ ds.length ≤ 100 ∧ h.get? d = some (dictOf ds n) ∧ InstAt h ax (instObj thr d) thr (some (dictOf ds n)) := by
  obtain ⟨a1, e1, d, ho, hd⟩ := S.s.cells i _ hi
  rw [ha] at e1; cases e1
  obtain ⟨a2, e2, ds, n, hdd, hr, hz⟩ := S.s.cells j _ hj
  rw [hd] at e2; cases e2
  exact ⟨d, ds, n, hd, hr, hz, hdd, ho, rfl, rfl, hdd⟩
theorem attr_get {A : Around} {E : Value → Shared → Prop} {s : Shared} {ρ : List Addr} {F : Frz} {expr : Bool} (S : Sim C lo st ρ F s.heap) {ax : Addr} (ha : ρ[i]? = some ax) (hi : st[i]? = some (.inst thr j)) (hj : st[j]? = some (.dict es)) (hg : dfind name es = some p) (hn : name ∈ attrNames) (hp : NotVal p) {Q : Value → Shared → Prop}
    (hQ : ∀ v tk, Rep ρ F v p → Q v (Rest s s.heap tk)) : wpAny (model C.P.prog C.P.w) A (getAttr (.ref ax) name expr) Q E s := by
  obtain ⟨K, X, ck⟩ := S.good.gd.cls
  obtain ⟨d, ds, n, hd, hr, hz, hdd, I⟩ := S.inst ha hi hj
  obtain ⟨v, hv, rv⟩ := hr.getL hg
  exact get_value (X.keeps S.grd) I (plainGet_of ck.pget).1 (findObj_own ck.hasd (ck.attr name hn) rfl hv) (rv.handed hp) (hQ v _ rv)
theorem ev_attr {o : Expr} (ho : Ev C lo st o (.loc i) st1) (hi : st1[i]? = some (.inst thr j)) (hj : st1[j]? = some (.dict es)) (hg : dfind name es = some p) (hp : NotVal p) (hn : name ∈ attrNames := by decide)
    (he : eval (.Attribute o name pos) C.env = (do
      let v ← eval o C.env
      standAt pos.atName
      let r ← holding [v] (getAttr v name true)
      letTemporaryGo o v r
      pure r) := by with_unfolding_all rfl) : Ev C lo st (.Attribute o name pos) p st1 := by
  refine .mk fun s ρ F S Q hQ => ?_
  refine Attribute_any_ (ho.run s ρ F S _ fun v h1 t1 ρ1 F1 r1 S1 p1 f1 => ?_) he
  obtain ⟨ax, rfl, ha⟩ := r1.toLoc
  exact attr_get S1 ha hi hj hg hn hp fun v tk rv => hQ v h1 tk ρ1 F1 rv S1 p1 f1
theorem ex_setattr {o e : Expr} {p' : Pos} (he : Ev C lo st e p st1) (ho : Ev C lo st1 o (.loc i) st2) (hi : st2[i]? = some (.inst thr j)) (hj : st2[j]? = some (.dict es)) (hz : (dput name p es).length ≤ 100)
    (k : Ex C lo (st2.set j (.dict (dput name p es))) rest K) (hn : name ∈ attrNames := by decide) (hs : swapsWith e (some (.Attribute o name p')) pos.line C.env = pure false := by rfl) : Ex C lo st (.Assign [.Attribute o name p'] e pos :: rest) K := by
  refine ex_cons fun s ρ F S Q hQ => plainObj_wpAny_Assign_Attribute (he.run s ρ F S _ fun v h1 t1 ρ1 F1 r1 S1 p1 f1 => ho.run _ ρ1 F1 S1 _ fun u h2 t2 ρ2 F2 r2 S2 p2 f2 => ?_) hs
  obtain ⟨ax, rfl, ha⟩ := r2.toLoc
  obtain ⟨Kf, X, ck⟩ := S2.good.gd.cls
  obtain ⟨d, ds, n, hd, hr, hz2, hdd, I⟩ := S2.inst ha hi hj
  have hdL : d ≠ C.env.locals := fun q => S2.L2 (q ▸ List.mem_of_getElem? hd)
  obtain ⟨m, hm, hloc⟩ := S2.ns
  have rv := r1.mono p2 f2
  have hput := hr.put (name := name) (hsh := PyData.keyHash C.P.w.params name) (t := t2 + 1) rv
  have hlen := hput.length
  refine set_plain (X.keeps S2.grd) I ck.seta (osa_dict (s := { (Rest (Rest (Rest s h1 t1) h2 t2) h2 t2) with toks := t2 + 1 }) (fr00 hm) (news00 hdd hdL) (X.keeps S2.grd) I rfl ck.over ?_ ck.hasd hr.sure (fun q hq => (allBut_mem.mp hq).2.1) (fun _ h => nomatch h) (putName_dict _ _ _ _ _ _) rfl (by rw [hlen]; omega) fun h' Fh Nh => ?_)
  · unfold takerIn; rw [ck.attr name hn]; rfl
  · have S3 := S2.turn (h' := h') hd (c := .dict (dput name p es)) ⟨_, putN name ds n, (Nh (d, _) (List.mem_append_right _ List.mem_cons_self)).1, hput, by rw [hlen]; exact hz⟩ (fun b q hb hL e => (Nh (b, q) (List.mem_append_left _ (allBut_mem.mpr ⟨hL, hb, e⟩))).1) Fh.ns hloc
    exact hQ (.next _ _) k _ h' _ ρ2 F2 ⟨rfl, S3⟩ (p1.trans p2) (f1.trans f2)
end
end Mine
end
section
open PySem PySem.W PySem.Calls PyProof.Rows PySem.Builtin.Str
set_option Elab.async false
set_option autoImplicit false
set_option linter.all false
set_option maxRecDepth 100000
namespace Mine
/-- a call, as code -/
noncomputable def Cd (P : Pg) (T : Tabs) (lv : Nat) (f : Addr) (vs : List PV) (st : List Cell) (r : PV) (st' : List Cell) : Prop :=
  ∀ (A : Around) (s : Shared) (ρ : List Addr) (F : Frz) (rs : List Value), Gd P T → A.handled = none → A.depth + lv < recursionLimit → A.units + 20 * lv < cLine →
    SimS P st ρ F s.heap → Reps ρ F rs vs → ∀ R : Result → Shared → Prop,
    (∀ v h' tk ρ' F', Rep ρ' F' v r → SimS P st' ρ' F' h' → ρ <+: ρ' → FLe F F' → R (.ok (.ret v)) (Rest s h' tk)) →
    codeAny (model P.prog P.w) A (.call (.ref f) ⟨rs, []⟩) R s
theorem Cd.cl {P : Pg} {T : Tabs} {lv : Nat} {f : Addr} {vs : List PV} {st st' : List Cell} {r : PV} (h : Cd P T lv f vs st r st') : Cl P T lv (.ref f) vs st r st' :=
  fun A s ρ F rs G hA hro hu S hr Q hQ => wpAny_call (h A s ρ F rs G hA hro hu S hr _ hQ)
theorem cd_def {P : Pg} {T : Tabs} {lv k : Nat} {f : Addr} {fd : FuncData} {params keys gkeys : List Str} {body : List Stmt} {vs : List PV} {st st' : List Cell} {r : PV} (ok : FnOK fd params keys gkeys body) (hk : T.fns[k]? = some (f, fd)) (hn : vs.length = params.length)
    (h : ∀ (A : Around) (L : Addr), Ex (mkCx P T A fd L f keys gkeys lv) (vs.map some ++ List.replicate (keys.length - vs.length) none) st body (RetIs r st')) : Cd P T (lv + 1) f vs st r st' := by
  intro A s ρ F rs G hA hro hu S hr R hQ
  refine code_rel ok hk hn h A s ρ F rs G hA hro hu S hr R fun v h' tk ρ' F' o ko hv p f => ?_
  cases o with
  | ret q st2 => obtain ⟨rfl, rfl⟩ := ko; exact hQ v h' tk ρ' F' hv.1 hv.2 p f
  | next lo2 st2 =>
    obtain ⟨rfl, rfl⟩ := ko
    obtain ⟨rfl, S2⟩ := hv
    exact hQ .none h' tk ρ' F' .none S2 p f
  | brk _ _ => exact ko.elim
  | cont _ _ => exact ko.elim
section
variable {C : Cx} {lo : List (Option PV)} {st st1 st2 st3 : List Cell} {pos : Pos} {a b c r p : PV} {K : Out → Prop} {rest : List Stmt} {x : Str} {px : Pos} {body : List Stmt} {items xs vs : List PV} {i j lv : Nat} {es : List (Str × PV)} {name : Str}
/-- the locals' frame is frozen through a call -/
theorem Sim.frz {ρ : List Addr} {F : Frz} {h : Heap} (S : Sim C lo st ρ F h) : ∃ oL : Obj, NotData oL ∧ FLe F (addF F C.env.locals oL) ∧ SimS C.P st ρ (addF F C.env.locals oL) h ∧
    ∀ {r : PV} {st1 : List Cell} {v : Value} {h' : Heap} {ρ' : List Addr} {F' : Frz}, Rep ρ' F' v r → SimS C.P st1 ρ' F' h' → ρ <+: ρ' → FLe (addF F C.env.locals oL) F' →
      Rep ρ' (delF F' C.env.locals) v r ∧ Sim C lo st1 ρ' (delF F' C.env.locals) h' ∧ FLe F (delF F' C.env.locals) := by
  obtain ⟨m, ⟨oL, es, ep, eL, dL, kL⟩, hm⟩ := S.ns
  have nd : NotData oL := ⟨fun vs e => (by rw [e] at dL; cases dL), fun C d e => (by rw [e] at dL; cases dL)⟩
  have le := addF_le (o := oL) S.L1
  refine ⟨oL, nd, le, ⟨fun b q e => ?_, fun b q e => le b q (S.s.gnd b q e), S.s.nod, fun b hb => ?_, S.s.len, S.s.tb, fun i c e => ?_⟩, fun {r st1 v h' ρ' F'} rv S' p g => ?_⟩
  · unfold addF at e; split at e
    · rename_i z; subst z; cases e; exact eL
    · exact S.s.fin b q e
  · unfold addF; split
    · rename_i z; subst z; exact absurd hb S.L2
    · exact S.s.off b hb
  · obtain ⟨b, e1, k⟩ := S.s.cells i c e
    exact ⟨b, e1, k.mono (List.prefix_refl _) le fun o q => q⟩
  · have e' : F' C.env.locals = some oL := g _ _ addF_self
    have hg0 := S.h0_none S.L1
    refine ⟨rv.thaw e' nd, ⟨S.good, S'.thaw e' nd hg0, by unfold delF; rw [if_pos rfl], fun q => ?_, S.len, (fun q hq => let ⟨a, e1, e2⟩ := S.cel q hq; ⟨a, e1, pre_get p e2⟩), m, ⟨oL, es, ep, S'.fin _ _ e', dL, kL⟩, fun i x hx => ((hm i x hx).mono p (le.trans g)).thaw e' nd⟩, delF_le S.L1 (le.trans g)⟩
    have := S'.off _ q; rw [e'] at this; cases this
theorem Cd.use {f : Addr} {s : Shared} {ρ : List Addr} {F : Frz} {rs : List Value} {A : Around} (hc : Cd C.P C.T lv f vs st r st1) (S : Sim C lo st ρ F s.heap) (hr : Reps ρ F rs vs) (hA : A.handled = none) (hro : A.depth + lv < recursionLimit) (hu : A.units + 20 * lv < cLine) {R : Result → Shared → Prop}
    (hQ : ∀ v h' tk ρ' F', Rep ρ' F' v r → Sim C lo st1 ρ' F' h' → ρ <+: ρ' → FLe F F' → R (.ok (.ret v)) (Rest s h' tk)) : codeAny (model C.P.prog C.P.w) A (.call (.ref f) ⟨rs, []⟩) R s := by
  obtain ⟨oL, nd, le, SF, back⟩ := S.frz
  refine hc A s ρ _ rs S.good.gd hA hro hu SF (hr.mono (List.prefix_refl _) le) R fun v h' tk ρ' F' rv S' p g => ?_
  obtain ⟨a, b, c⟩ := back rv S' p g
  exact hQ v h' tk ρ' _ a b p c

theorem Sim.keep' {ρ : List Addr} {F : Frz} {h h' : Heap} (S : Sim C lo st ρ F h) {m : Str → Option Value} (hk : ∀ b q, b ≠ C.env.locals → h.get? b = some q → h'.get? b = some q) (hn' : h'.Ns C.env.locals m) (hm : ∀ (i : Nat) (x : Str), C.keys[i]? = some x → LocAt ρ F (m x) lo[i]?) : Sim C lo st ρ F h' :=
  ⟨S.good, S.s.keep fun a o e q => hk a o (fun z => by
    subst z
    rcases q with q | q
    · exact S.L2 q
    · rw [S.L1] at q; cases q) e, S.L1, S.L2, S.len, S.cel, m, hn', hm⟩
/-- a cell is named that stands already -/
theorem Sim.claim {ρ : List Addr} {F : Frz} {h : Heap} {a : Addr} {c : Cell} (S : Sim C lo st ρ F h) (hF : F a = none) (hr : a ∉ ρ) (hL : a ≠ C.env.locals) (hc : CellAt (ρ ++ [a]) F h a c) : Sim C lo (st ++ [c]) (ρ ++ [a]) F h := by
  have pre : ρ <+: ρ ++ [a] := List.prefix_append _ _
  refine ⟨S.good, ⟨S.s.fin, S.s.gnd, ?_, fun b hb => ?_, by simp [S.s.len], pre_get pre S.s.tb, fun i c' e => ?_⟩, S.L1, ?_, S.len, (fun q hq => let ⟨a, e1, e2⟩ := S.cel q hq; ⟨a, e1, pre_get pre e2⟩), ?_⟩
  · rw [List.nodup_append]
    refine ⟨S.s.nod, by simp, ?_⟩
    intro x hx y hy
    rw [List.mem_singleton] at hy
    subst hy; intro q; subst q; exact hr hx
  · rcases List.mem_append.mp hb with q | q
    · exact S.s.off b q
    · rw [List.mem_singleton.mp q]; exact hF
  · by_cases hi : i < st.length
    · rw [List.getElem?_append_left hi] at e
      obtain ⟨b, e1, k⟩ := S.s.cells i c' e
      exact ⟨b, pre_get pre e1, k.mono pre (FLe.refl _) fun q z => z⟩
    · rw [List.getElem?_append_right (by omega)] at e
      have hi' : i = st.length := by
        have := lt_of_get e
        simp at this; omega
      subst hi'
      simp only [Nat.sub_self, List.getElem?_cons_zero, Option.some.injEq] at e
      subst e
      refine ⟨a, ?_, hc⟩
      rw [List.getElem?_append_right (by rw [S.s.len]; exact Nat.le_refl _), S.s.len, Nat.sub_self]; rfl
  · rw [List.mem_append, List.mem_singleton]; rintro (q | q)
    · exact S.L2 q
    · exact hL q.symm
  · obtain ⟨m, hn, hm⟩ := S.ns
    exact ⟨m, hn, fun i x hx => (hm i x hx).mono pre (FLe.refl _)⟩
theorem at_new {ρ : List Addr} {F : Frz} {h : Heap} {a : Addr} (S : Sim C lo st ρ F h) : (ρ ++ [a])[st.length]? = some a := by
  rw [List.getElem?_append_right (by rw [S.s.len]; exact Nat.le_refl _), S.s.len, Nat.sub_self]; rfl
/-- Thread(..) -/
theorem ev_new {f : Expr} {args : List Expr} {e0 : Expr} (hf : Ev C lo st f (.val (.ref thr)) st) (ha : Evs C lo st (e0 :: args) vs st1) (hc : Cd C.P C.T lv 683 (.loc (st1.length + 1) :: vs) (st1 ++ [.dict [], .inst thr st1.length]) .none st2) (hl : lv + 1 ≤ C.lv)
    (hq : starEach (e0 :: args) C.env = (false, eval e0 C.env) :: starEach args C.env := by rfl) (hp : ∀ pos : Pos, (backTo pos (starEach args C.env)).any (·.1) = false := by intro _; rfl)
    (he : eval (.Call f (e0 :: args) [] pos) C.env = (do callWith pos (← eval f C.env) [] (backTo pos (starEach (e0 :: args) C.env)) (backToKw pos (keywordEach [] C.env))) := by rfl) : Ev C lo st (.Call f (e0 :: args) [] pos) (.loc (st1.length + 1)) st2 := by
  refine .mk fun s ρ F S Q hQ => ?_
  refine Call_ (hf.run s ρ F S _ fun v h1 t1 ρ1 F1 r1 S1 p1 f1 => ?_) he
  cases r1.toVal
  obtain ⟨K, X, ck⟩ := S.good.gd.cls
  suffices hs : wpAny (model C.P.prog C.P.w) C.A (spliced (backTo pos (starEach (e0 :: args) C.env))) (fun vs s1 => K.In s1.heap ∧ wpAny (model C.P.prog C.P.w) C.A (call (.ref thr) vs) Q NoE s1) NoE (Rest s h1 t1) by
    rw [hq] at hs ⊢
    exact callWith_of (P := K.In) (by show ((false || (backTo pos (starEach args C.env)).any (·.1)) || false) = false; rw [hp]; rfl) (keeps_K ck.keeper) (evalArgs_plain hs)
  refine ha.run pos _ ρ1 F1 S1 _ fun rs h2 t2 ρ2 F2 r2 S2 p2 f2 => ⟨X.keeps S2.grd, ?_⟩
  obtain ⟨m, hn, hm⟩ := S2.ns
  have hu := S.good.units
  have hro := S.good.room
  refine wpAny_call (make_K (fr00 hn) (newsA (h := h2) (L := C.env.locals) h2.objs.size get_size) (X.keeps S2.grd) ck.makes ck.init ck.initf fun x dx h' Fh Nh hlt hxd => ?_)
  have hk : ∀ b q, b ≠ C.env.locals → h2.get? b = some q → h'.get? b = some q := fun b q hb e => (Nh (b, q) (List.mem_cons_of_mem _ (List.mem_cons_of_mem _ (allBut_mem.mpr ⟨hb, Nat.ne_of_lt (Heap.lt_size e), e⟩)))).1
  have ex := Nh (x, _) List.mem_cons_self
  have ed := Nh (dx, _) (List.mem_cons_of_mem _ List.mem_cons_self)
  have fd : h2.get? dx = none := by
    cases q : h2.get? dx with
    | none => rfl
    | some o => exact absurd (hlt (dx, o) (allBut_mem.mpr ⟨ed.2.1, Nat.ne_of_lt (Heap.lt_size q), q⟩)) (Nat.lt_irrefl _)
  have fx : h2.get? x = none := by
    cases q : h2.get? x with
    | none => rfl
    | some o => exact absurd (hlt (x, o) (allBut_mem.mpr ⟨ex.2.1, Nat.ne_of_lt (Heap.lt_size q), q⟩)) (fun z => Nat.lt_asymm hxd z)
  have S3 : Sim C lo st1 ρ2 F2 h' := S2.keep' hk Fh.ns hm
  obtain ⟨d1, d2, d3⟩ := S2.fresh fd
  obtain ⟨x1, x2, x3⟩ := S2.fresh fx
  have S4 := S3.claim d1 d2 d3 (c := .dict []) ⟨[], 0, ed.1, trivial, by decide⟩
  have S5 := S4.claim x1 (by rw [List.mem_append, List.mem_singleton]; rintro (z | z); exact x2 z; exact Nat.ne_of_gt hxd z) x3 (c := .inst thr st1.length) ⟨dx, ex.1, pre_get (List.prefix_append _ _) (at_new S3)⟩
  have p5 : ρ2 <+: ρ2 ++ [dx] ++ [x] := (List.prefix_append _ _).trans (List.prefix_append _ _)
  have e5 : st1 ++ [Cell.dict []] ++ [Cell.inst thr st1.length] = st1 ++ [.dict [], .inst thr st1.length] := by simp
  have xa : (ρ2 ++ [dx] ++ [x])[st1.length + 1]? = some x := by
    have := at_new (a := x) S4
    rw [List.length_append] at this; exact this
  rw [e5] at S5
  refine hc.use (A := C.A.under (.builtin "type.__call__" ⟨.ref thr :: rs, []⟩)) (s := Rest (Rest s h2 t2) h' t2) S5 (.cons (.loc xa) (r2.mono p5 (FLe.refl _))) S.good.hd (by show C.A.depth + 1 + lv < _; omega) (by show C.A.units + 1 + 20 * lv < _; omega) fun v h3 tk ρ' F' rv S' p g => ?_
  cases rv
  exact ⟨rfl, hQ _ h3 tk ρ' F' (.loc (pre_get p xa)) S' ((p1.trans p2).trans (p5.trans p)) ((f1.trans f2).trans g)⟩
end
end Mine
end
section
open PySem PySem.W PySem.Calls PyProof.Rows PySem.Builtin.Str
set_option Elab.async false
set_option autoImplicit false
set_option linter.all false
set_option maxRecDepth 100000
namespace Mine
theorem dput_new {name : Str} {p : PV} : ∀ {es : List (Str × PV)}, (es.map (·.1)).all (fun k => !(k == name)) = true → dput name p es = es ++ [(name, p)]
  | [], _ => rfl
  | x :: r, h => by
    rw [List.map_cons, List.all_cons, Bool.and_eq_true] at h
    unfold dput
    have : (x.1 == name) = false := by have := h.1; simpa using this
    rw [this, if_neg (by decide), dput_new h.2]; rfl
section
variable {C : Cx} {lo : List (Option PV)} {st st1 st2 st3 : List Cell} {pos : Pos} {a b c r p : PV} {K : Out → Prop} {rest : List Stmt} {i j : Nat} {es : List (Str × PV)} {name : Str}
theorem ev_dict0 : Ev C lo st (.Dict [] [] pos) (.loc st.length) (st ++ [.dict []]) := by
  refine .mk fun s ρ F S Q hQ => ?_
  refine wpAny_Dict_empty ?_
  have pre : ρ <+: ρ ++ [s.heap.objs.size] := List.prefix_append _ _
  have S2 := S.addCell (c := .dict []) (get_size (h := s.heap)) (h' := s.heap.push { cls := .type "dict", data := .dict #[] }) ⟨[], 0, Heap.get?_push_size _ rfl, trivial, by decide⟩ (fun b q e => Heap.get?_push_of_some _ e)
  exact hQ _ _ s.toks _ F (.loc (at_new S)) S2 pre (FLe.refl _)
theorem ex_setnew {o e : Expr} {p' : Pos} (he : Ev C lo st e p st1) (ho : Ev C lo st1 o (.loc i) st2) (hi : st2[i]? = some (.inst thr j)) (hj : st2[j]? = some (.dict es)) (k : Ex C lo (st2.set j (.dict (es ++ [(name, p)]))) rest K)
    (hq : (es.map (·.1)).all (fun k => !(k == name)) = true := by rfl) (hz : es.length ≤ 90 := by exact Nat.le_of_ble_eq_true rfl) (hn : name ∈ attrNames := by decide) (hs : swapsWith e (some (.Attribute o name p')) pos.line C.env = pure false := by rfl) : Ex C lo st (.Assign [.Attribute o name p'] e pos :: rest) K := by
  have e1 := dput_new (p := p) hq
  exact ex_setattr he ho hi hj (by rw [e1, List.length_append]; show _ + 1 ≤ _; omega) (by rw [e1]; exact k) hn hs
theorem gT0 {st g : List Cell} {a b : Cell} : (st ++ [a, b] ++ g)[st.length]? = some a := by rw [List.append_assoc, List.getElem?_append_right (Nat.le_refl _), Nat.sub_self]; rfl
theorem gT1 {st g : List Cell} {a b : Cell} : (st ++ [a, b] ++ g)[st.length + 1]? = some b := by
  rw [List.append_assoc, List.getElem?_append_right (by omega), show st.length + 1 - st.length = 1 by omega]; rfl
theorem setT {st g : List Cell} {a b c : Cell} : (st ++ [a, b] ++ g).set st.length c = st ++ [c, b] ++ g := by
  rw [List.append_assoc, List.set_append_right _ _ (Nat.le_refl _), Nat.sub_self]; simp
end
noncomputable def thrE (a b c d e : PV) (n : Nat) : List (Str × PV) :=
  [("number", a), ("code", b), ("pc", c), ("frame", d), ("path", e), ("calls", .loc (n + 2)), ("scopes", .loc (n + 3)), ("parent", .int (-1)), ("children", .loc (n + 4)), ("done", .bool false), ("wait", .none), ("stamp", .int 0), ("looking", .bool false), ("again", .bool false)]
section
variable {P : Pg} {lv : Nat} {st : List Cell} {a b c d e : PV}
theorem init_cd : Cd P tabs (lv + 1) 683 [.loc (st.length + 1), a, b, c, d, e] (st ++ [.dict [], .inst thr st.length]) .none (st ++ [.dict (thrE a b c d e st.length), .inst thr st.length, .list [], .list [], .dict []]) := by
  refine cd_def ok_init (k := 37) rfl rfl fun A L => ?_
  conv => arg 4; whnf
  rw [← List.append_nil (st ++ [Cell.dict [], Cell.inst thr st.length])]
  refine ex_setnew (ev_name 1) (ev_name 0) gT1 gT0 ?_
  rw [setT]
  refine ex_setnew (ev_name 2) (ev_name 0) gT1 gT0 ?_
  rw [setT]
  refine ex_setnew (ev_name 3) (ev_name 0) gT1 gT0 ?_
  rw [setT]
  refine ex_setnew (ev_name 4) (ev_name 0) gT1 gT0 ?_
  rw [setT]
  refine ex_setnew (ev_name 5) (ev_name 0) gT1 gT0 ?_
  rw [setT]
  refine ex_setnew (ev_list evs_nil (by decide)) (ev_name 0) (by rw [List.append_assoc (st ++ _)]; exact gT1) (by rw [List.append_assoc (st ++ _)]; exact gT0) ?_
  rw [List.append_assoc (st ++ _), setT]
  refine ex_setnew (ev_list evs_nil (by decide)) (ev_name 0) (by rw [List.append_assoc (st ++ _)]; exact gT1) (by rw [List.append_assoc (st ++ _)]; exact gT0) ?_
  rw [List.append_assoc (st ++ _), setT]
  refine ex_setnew (ev_neg ev_int) (ev_name 0) gT1 gT0 ?_
  rw [setT]
  refine ex_setnew ev_dict0 (ev_name 0) (by rw [List.append_assoc (st ++ _)]; exact gT1) (by rw [List.append_assoc (st ++ _)]; exact gT0) ?_
  rw [List.append_assoc (st ++ _), setT]
  refine ex_setnew ev_bool (ev_name 0) gT1 gT0 ?_
  rw [setT]
  refine ex_setnew ev_none (ev_name 0) gT1 gT0 ?_
  rw [setT]
  refine ex_setnew ev_int (ev_name 0) gT1 gT0 ?_
  rw [setT]
  refine ex_setnew ev_bool (ev_name 0) gT1 gT0 ?_
  rw [setT]
  refine ex_setnew ev_bool (ev_name 0) gT1 gT0 ?_
  rw [setT]
  refine ex_nil ⟨rfl, ?_⟩
  simp [thrE]
end
end Mine
end
section
open PySem PySem.W PySem.Calls PyProof.Rows PySem.Builtin.Str
set_option Elab.async false
set_option autoImplicit false
set_option linter.all false
set_option maxRecDepth 100000
namespace Mine
theorem codeAmong_ne {pos : Pos} {a b : Int} {c : Value} (hne : ¬ (a = pos.line ∧ b = pos.col)) (l : List Value) (h : TriplesOk l) (hn : codeAmong pos l = none) : codeAmong pos (l ++ [rawInt a, rawInt b, c]) = none := by
  fun_induction TriplesOk l with
  | case1 =>
    simp only [List.nil_append, codeAmong, rawInt]
    have : (a == pos.line && b == pos.col) = false := by
      rw [Bool.and_eq_false_iff]
      rcases Decidable.em (a = pos.line) with q | q
      · right; rw [beq_eq_false_iff_ne]; exact fun z => hne ⟨q, z⟩
      · left; rw [beq_eq_false_iff_ne]; exact q
    rw [this]; rfl
  | case2 line t1 col t2 x rest ih =>
    simp only [List.cons_append, codeAmong] at hn ⊢
    split at hn
    · cases hn
    · rename_i q; rw [if_neg q]; exact ih h hn
  | case3 => exact h.elim
/-- a call of a function that stands in the store -/
noncomputable def ClL (P : Pg) (T : Tabs) (lv : Nat) (i : Nat) (vs : List PV) (st : List Cell) (r : PV) (st' : List Cell) : Prop :=
  ∀ (A : Around) (s : Shared) (ρ : List Addr) (F : Frz) (rs : List Value) (a : Addr), Gd P T → A.handled = none → A.depth + lv < recursionLimit → A.units + 20 * lv < cLine →
    SimS P st ρ F s.heap → ρ[i]? = some a → Reps ρ F rs vs → ∀ Q : Value → Shared → Prop,
    (∀ v h' tk ρ' F', Rep ρ' F' v r → SimS P st' ρ' F' h' → ρ <+: ρ' → FLe F F' → Q v (Rest s h' tk)) →
    wpAny (model P.prog P.w) A (call (.ref a) rs) Q NoE s
theorem ClosAt.look {ρ : List Addr} : ∀ {l : List (Str × Addr)} {m : List (Str × Nat)}, ClosAt ρ l m → (m.map (·.1)).Nodup → ∀ q ∈ m, ∃ a, l.lookup q.1 = some a ∧ ρ[q.2]? = some a
  | [], [], _, _ => fun _ h => nomatch h
  | (n, a) :: l, (n', i) :: m, ⟨e, b, c⟩, nd => fun q hq => by
    subst e
    rw [List.map_cons, List.nodup_cons] at nd
    rcases List.mem_cons.mp hq with rfl | hq
    · exact ⟨a, by simp, b⟩
    · obtain ⟨a', h1, h2⟩ := ClosAt.look c nd.2 q hq
      refine ⟨a', ?_, h2⟩
      have hne : (q.1 == n) = false := by
        rw [beq_eq_false_iff_ne]; intro z; exact nd.1 (z ▸ List.mem_map.mpr ⟨q, hq, rfl⟩)
      rw [List.lookup_cons, hne]; exact h1
  | [], _ :: _, h, _ => h.elim
  | _ :: _, [], h, _ => h.elim
theorem cl_clos {P : Pg} {T : Tabs} {lv i ic : Nat} {name qual : Str} {params : Arguments} {body : List Stmt} {scope : Scope} {cs : List (Str × Nat)} {ps keys gkeys : List Str} {vs : List PV} {st st' : List Cell} {r : PV}
    (hi : st[i]? = some (.fn name qual params body scope cs ic)) (hic : st[ic]? = some (.code qual)) (ok : ∀ clos doc pm c' ctv, FnOK (fnX name qual params body scope clos .none .none doc pm none (.ref c') ctv) ps keys gkeys body) (hfree : ∀ q ∈ cs, scope.names.lookup q.1 = some .free) (hnd : (cs.map (·.1)).Nodup) (hn : vs.length = ps.length)
    (h : ∀ (A : Around) (L f : Addr) clos doc pm c' ctv, Ex (mkCx P T A (fnX name qual params body scope clos .none .none doc pm none (.ref c') ctv) L f keys gkeys lv cs) (vs.map some ++ List.replicate (keys.length - vs.length) none) st body (RetIs r st')) : ClL P T (lv + 1) i vs st r st' := by
  intro A s ρ F rs a G hA hro hu S ha hr Q hQ
  obtain ⟨a1, e1, doc, pm, c', ctv, clos, ho, hc, hcl⟩ := S.cells i _ hi
  rw [ha] at e1; cases e1
  obtain ⟨a2, e2, oc, ovs, t, hoc, hd, hv⟩ := S.cells ic _ hic
  rw [hc] at e2; cases e2
  refine wpAny_call (code_gen (ok clos doc pm c' ctv) hn A s ρ F rs ho rfl ⟨c', oc, ovs, t, rfl, hoc, hd, hv⟩ (fun q hq => ⟨hfree q hq, hcl.look hnd q hq⟩) (fun L => h A L a clos doc pm c' ctv) G hA hro hu S hr _ fun v h' tk ρ' F' o ko hv p f => ?_)
  cases o with
  | ret q st2 => obtain ⟨rfl, rfl⟩ := ko; exact hQ v h' tk ρ' F' hv.1 hv.2 p f
  | next lo2 st2 =>
    obtain ⟨rfl, rfl⟩ := ko
    obtain ⟨rfl, S2⟩ := hv
    exact hQ .none h' tk ρ' F' .none S2 p f
  | brk _ _ => exact ko.elim
  | cont _ _ => exact ko.elim
section
variable {C : Cx} {lo : List (Option PV)} {st st1 st2 st3 : List Cell} {pos : Pos} {a b c r p : PV} {K : Out → Prop} {rest : List Stmt} {x : Str} {px : Pos} {body : List Stmt} {items xs vs : List PV} {i j lv : Nat} {es : List (Str × PV)} {name : Str}
/-- o.f(..), f a function among the object's own attributes -/
theorem ev_methown {o e0 : Expr} {args : List Expr} {apos : Pos} {k : Nat} {fname qual : Str} {params : Arguments} {fbody : List Stmt} {scope : Scope} {cs : List (Str × Nat)} {ic : Nat} (ho : Ev C lo st o (.loc i) st1) (hi : st1[i]? = some (.inst thr j)) (hj : st1[j]? = some (.dict es)) (hg : dfind name es = some (.loc k)) (ha : Evs C lo st1 (e0 :: args) vs st2) (hf : st2[k]? = some (.fn fname qual params fbody scope cs ic)) (hc : ClL C.P C.T lv k vs st2 r st3) (hl : lv ≤ C.lv)
    (hf1 : st1[k]? = some (.fn fname qual params fbody scope cs ic))
    (hn : name ∈ attrNames := by decide) (hbase : attributeBase o name C.env (eval o C.env) = eval o C.env := by rfl) (hline : (apos.endLine == pos.line) = true := by rfl)
    (hq : starEach (e0 :: args) C.env = (false, eval e0 C.env) :: starEach args C.env := by rfl) (hp : (backTo pos (starEach args C.env)).any (·.1) = false := by rfl)
    (hfew : ((backTo pos (starEach (e0 :: args) C.env)).all (fun x => !x.1) && (backToKw pos (keywordEach [] C.env)).all (fun x => x.1.isSome)
      && decide ((e0 :: args).length + ([] : List Keyword).length + (if ([] : List Keyword).isEmpty then 0 else 1) < 30)) = true := by rfl) : Ev C lo st (.Call (.Attribute o name apos) (e0 :: args) [] pos) r st3 := by
  refine .mk fun s ρ F S Q hQ => ?_
  refine Call_meth_any hbase hfew hline (ho.run s ρ F S _ fun v h1 t1 ρ1 F1 r1 S1 p1 f1 pl => ?_)
  obtain ⟨ax, rfl, hax⟩ := r1.toLoc
  obtain ⟨Kf, X, ck⟩ := S1.good.gd.cls
  obtain ⟨d, ds, n, hd, hr, hz, hdd, I⟩ := S1.inst hax hi hj
  refine method_usual (X.keeps S1.grd) I (plainGet_of ck.pget).1 (plainGet_of ck.pget).2 (ck.attr name hn) rfl (attr_get S1 hax hi hj hg hn (fun v e => by cases e) fun v tk rv => ?_)
  obtain ⟨af, rfl, haf⟩ := rv.toLoc
  have at1 : FnAt af h1 := by
    obtain ⟨a1, e1, doc, pm, c', ctv, clos, hof, _⟩ := S1.s.cells k _ hf1
    rw [haf] at e1; cases e1
    exact ⟨_, _, _, _, hof⟩
  refine callWith_F at1 (ha.run pos _ ρ1 F1 S1 _ fun rs h2 t2 ρ2 F2 r2 S2 p2 f2 => ?_) hq hp
  have haf2 := pre_get p2 haf
  refine ⟨?_, ?_⟩
  · obtain ⟨a1, e1, doc, pm, c', ctv, clos, hof, _⟩ := S2.s.cells k _ hf
    rw [haf2] at e1; cases e1
    exact ⟨_, _, _, _, hof⟩
  · obtain ⟨oL, nd, le, SF, back⟩ := S2.frz
    have hu := S2.good.units
    have hro := S2.good.room
    refine hc C.A _ ρ2 _ rs af S2.good.gd S2.good.hd (by omega) (by omega) SF haf2 (r2.mono (List.prefix_refl _) le) Q fun v h' tk ρ' F' rv S' p g => ?_
    obtain ⟨q1, q2, q3⟩ := back rv S' p g
    exact hQ v h' tk ρ' _ q1 q2 ((p1.trans p2).trans p) ((f1.trans f2).trans q3)
noncomputable def ClosOf (C : Cx) : List (Str × Addr) → List (Str × Nat) → Prop
  | [], [] => True
  | (n, a) :: r, (n', i) :: r' => n = n' ∧ C.env.cells.lookup n = some a ∧ (n, i) ∈ C.ckeys ∧ ClosOf C r r'
  | _, _ => False
theorem ClosOf.at {ρ : List Addr} (hc : ∀ q ∈ C.ckeys, ∃ a, C.env.cells.lookup q.1 = some a ∧ ρ[q.2]? = some a) : ∀ {l : List (Str × Addr)} {m : List (Str × Nat)}, ClosOf C l m → ClosAt ρ l m
  | [], [], _ => trivial
  | (n, a) :: r, (n', i) :: r', ⟨e, h1, h2, h3⟩ => by
    subst e
    obtain ⟨a', q1, q2⟩ := hc _ h2
    rw [h1] at q1; cases q1
    exact ⟨rfl, q2, ClosOf.at hc h3⟩
  | [], _ :: _, h => h.elim
  | _ :: _, [], h => h.elim
/-- a nested def: its code, then the function; the store's 0 is the code's table -/
theorem wp_nest {A : Around} {s : Shared} {ρ : List Addr} {F : Frz} {fname qual : Str} {params : Arguments} {fbody : List Stmt} {scope : Scope} {clos : List (Str × Addr)} {cs : List (Str × Nat)} {fpos : Pos} {fl : Nat} {ps : List Pos} (S : Sim C lo st ρ F s.heap)
    (hcl : closureFor scope C.env = pure clos) (hco : ClosOf C clos cs) (hcode : C.env.code = .ref C.T.kcode) (h0 : st[0]? = some (.tab ps)) (hps : ∀ q ∈ ps, ¬ (q.line = fpos.line ∧ q.col = fpos.col)) {Q : Value → Shared → Prop}
    (hQ : ∀ v h' tk ρ' , Rep ρ' F v (.loc (st.length + 1)) → Sim C lo (st.set 0 (.tab (fpos :: ps)) ++ [.code qual, .fn fname qual params fbody scope cs st.length]) ρ' F h' → ρ <+: ρ' → Q v (Rest s h' tk)) :
    wpAny (model C.P.prog C.P.w) A (makeFunction fname qual params (.stmts fbody) scope C.env [] [] [] fpos fl) Q NoE s := by
  obtain ⟨hCd, mg, hmg, hb, hne⟩ := S.good.gd.nest
  obtain ⟨a0, e0, tvs, hP, ht, hnone⟩ := S.s.cells 0 _ h0
  rw [S.s.tb] at e0; cases e0
  have hPL : C.P.ktab ≠ C.env.locals := fun q => S.L2 (q ▸ List.mem_of_getElem? S.s.tb)
  refine makeFunction_K (mg := mg) hcl S.good.glb (hmg.keeps S.grd) hcode (hCd.keeps S.grd) hP ht (hnone _ hps) hne (hb.keeps S.grd) fun c' ctv doc h' tk hx hge hlt hrec htb => ?_
  obtain ⟨c₂, oc, ovs, t, e2, hoc, hd, hv⟩ := hrec
  cases e2
  have S1 := S.setCell (h' := h') S.s.tb (c := .tab (fpos :: ps)) ⟨_, htb, by rw [Array.toList_append]; exact TriplesOk_snoc _ _ _ _ ht, fun p hp => by
    rw [Array.toList_append]
    refine codeAmong_ne (fun z => hp fpos List.mem_cons_self ⟨?_, ?_⟩) _ ht (hnone p fun q hq => hp q (List.mem_cons_of_mem _ hq))
    · exact_mod_cast z.1
    · exact_mod_cast z.2⟩ fun b q hb e => hx b q hb e
  have hl1 : (st.set 0 (.tab (fpos :: ps))).length = st.length := List.length_set ..
  have fc := S.fresh (Heap.get?_none_of_le hge)
  have S2 := S1.claim fc.1 fc.2.1 fc.2.2 (c := .code qual) ⟨oc, ovs, t, hoc, hd, hv⟩
  have ff : h'.get? h'.objs.size = none := get_size
  have cat := at_new (a := c') S1
  have S3 := S2.addCell (h' := h'.push (fnMade fname qual params fbody scope clos doc ((mg "__name__").getD .none) c' ctv)) (c := .fn fname qual params fbody scope cs st.length) ff
    ⟨doc, _, c', ctv, clos, Heap.get?_push_size _ rfl, by rw [← hl1]; exact pre_get (List.prefix_append _ _) cat, hco.at fun q hq => let ⟨a, q1, q2⟩ := S.cel q hq; ⟨a, q1, pre_get ((List.prefix_append _ _).trans (List.prefix_append _ _)) q2⟩⟩ (fun b q e => Heap.get?_push_of_some _ e)
  have ef := at_new (a := h'.objs.size) S2
  rw [List.length_append, hl1] at ef
  have e5 : st.set 0 (.tab (fpos :: ps)) ++ [Cell.code qual] ++ [Cell.fn fname qual params fbody scope cs st.length] = st.set 0 (.tab (fpos :: ps)) ++ [.code qual, .fn fname qual params fbody scope cs st.length] := by simp
  rw [e5] at S3
  exact hQ _ _ tk _ (.loc ef) S3 ((List.prefix_append _ _).trans (List.prefix_append _ _))
end
end Mine
end
section
open PySem PySem.W PySem.Calls PyProof.Rows PySem.Builtin.Str
set_option Elab.async false
set_option autoImplicit false
set_option linter.all false
set_option maxRecDepth 100000
namespace Mine
theorem SimS.claim {P : Pg} {st : List Cell} {ρ : List Addr} {F : Frz} {h : Heap} {a : Addr} {c : Cell} (S : SimS P st ρ F h) (hF : F a = none) (hr : a ∉ ρ) (hc : CellAt (ρ ++ [a]) F h a c) : SimS P (st ++ [c]) (ρ ++ [a]) F h := by
  have pre : ρ <+: ρ ++ [a] := List.prefix_append _ _
  refine ⟨S.fin, S.gnd, ?_, fun b hb => ?_, by simp [S.len], pre_get pre S.tb, fun i c' e => ?_⟩
  · rw [List.nodup_append]
    refine ⟨S.nod, by simp, ?_⟩
    intro x hx y hy
    rw [List.mem_singleton] at hy
    subst hy; intro q; subst q; exact hr hx
  · rcases List.mem_append.mp hb with q | q
    · exact S.off b q
    · rw [List.mem_singleton.mp q]; exact hF
  · by_cases hi : i < st.length
    · rw [List.getElem?_append_left hi] at e
      obtain ⟨b, e1, k⟩ := S.cells i c' e
      exact ⟨b, pre_get pre e1, k.mono pre (FLe.refl _) fun q z => z⟩
    · rw [List.getElem?_append_right (by omega)] at e
      have hi' : i = st.length := by
        have := lt_of_get e
        simp at this; omega
      subst hi'
      simp only [Nat.sub_self, List.getElem?_cons_zero, Option.some.injEq] at e
      subst e
      refine ⟨a, ?_, hc⟩
      rw [List.getElem?_append_right (by rw [S.len]; exact Nat.le_refl _), S.len, Nat.sub_self]; rfl
theorem SimS.claims {P : Pg} {F : Frz} {h : Heap} : ∀ (cs : List Cell) (n : Nat) (st : List Cell) (ρ : List Addr), SimS P st ρ F h → (∀ k, k < cs.length → F (n + k) = none ∧ (n + k) ∉ ρ) → (∀ k c, cs[k]? = some c → CellAt ρ F h (n + k) c) → SimS P (st ++ cs) (ρ ++ List.range' n cs.length) F h
  | [], n, st, ρ, S, _, _ => by simpa using S
  | c :: cs, n, st, ρ, S, hf, hc => by
    have pre : ρ <+: ρ ++ [n] := List.prefix_append _ _
    have S1 := S.claim (a := n) (c := c) (by have := (hf 0 (by simp)).1; simpa using this) (by have := (hf 0 (by simp)).2; simpa using this) ((by have := hc 0 c rfl; simpa using this : CellAt ρ F h n c).mono pre (FLe.refl _) fun _ e => e)
    have := SimS.claims cs (n + 1) (st ++ [c]) (ρ ++ [n]) S1 (fun k hk => by
      obtain ⟨a, b⟩ := hf (k + 1) (by simpa using hk)
      have e : n + 1 + k = n + (k + 1) := by omega
      rw [e]
      refine ⟨a, fun q => ?_⟩
      rcases List.mem_append.mp q with z | z
      · exact b z
      · have := List.mem_singleton.mp z; omega) (fun k c' e => by
      have e1 : n + 1 + k = n + (k + 1) := by omega
      rw [e1]
      exact (hc (k + 1) c' (by simpa using e)).mono pre (FLe.refl _) fun _ e => e)
    rw [List.append_assoc, List.append_assoc] at this
    simpa [List.range'_succ] using this
/-- a def that has cells -/
structure FnOKC (fd : FuncData) (params keys gkeys cnames : List Str) (pk pc : List (Option Nat)) (body : List Stmt) : Prop where
  body : fd.body = .stmts body
  bind : ∀ rs : List Value, rs.length = params.length → bindArgs fd ⟨rs, []⟩ = pure (params.zip rs)
  clo : fd.closure = []
  kp : ∀ x ∈ params, fd.scope.names.lookup x = some .local ∨ (fd.scope.names.lookup x = some .cell ∧ x ∈ cnames)
  locs : ∀ x ∈ keys, fd.scope.names.lookup x = some .local
  globs : ∀ x ∈ gkeys, fd.scope.names.lookup x = some .globalImplicit
  ckd : ∀ x ∈ cnames, fd.scope.names.lookup x = some .cell
  cs : ∀ n, cellsFrom n fd.scope.names [] = (cnames.zipIdx n).reverse
  nd : keys.Nodup
  ndc : cnames.Nodup
  ndp : params.Nodup
  lk : pk.length = keys.length
  lc : pc.length = cnames.length
  hpk : ∀ q ∈ keys.zip pk, match q.2 with | some j => params[j]? = some q.1 | none => q.1 ∉ params
  hpc : ∀ q ∈ cnames.zip pc, match q.2 with | some j => params[j]? = some q.1 | none => q.1 ∉ params
  kind : fd.scope.kind = .function
  co : fd.scope.isCoroutine = false
  gen : fd.scope.isGenerator = false
  glb : fd.globals = mainGlobals
  blt : fd.builtins = builtinsNs
noncomputable def mkCxC (P : Pg) (T : Tabs) (A : Around) (fd : FuncData) (L f : Addr) (keys gkeys cnames : List Str) (lv n : Nat) : Cx :=
  { P := P, T := T, A := A.deeper (callEnvC fd L f), env := callEnvC fd L f, keys := keys, gkeys := gkeys, lv := lv, ckeys := cnames.zipIdx n }
theorem bindL_of {k : Str → Option NameKind} {x : Str} (hx : k x = some .local) : ∀ (binds : List (Str × Value)) (m : Str → Option Value), (binds.map (·.1)).Nodup → bindL k binds m x = match binds.lookup x with | some v => some v | none => m x
  | [], m, _ => rfl
  | (n, v) :: r, m, nd => by
    rw [List.map_cons, List.nodup_cons] at nd
    unfold bindL
    rw [bindL_of hx r _ nd.2, List.lookup_cons]
    cases q : x == n with
    | true =>
      have e := beq_iff_eq.mp q
      subst e
      have : r.lookup x = none := by
        rw [List.lookup_eq_none_iff]
        intro p hp
        rw [bne_iff_ne]
        intro z; exact nd.1 (List.mem_map.mpr ⟨p, hp, z.symm⟩)
      rw [this, if_pos hx]; simp
    | false =>
      have e : x ≠ n := by simpa using q
      cases r.lookup x with
      | some u => rfl
      | none => dsimp only; split <;> simp [e]
theorem bindC_of {k : Str → Option NameKind} {x : Str} (hx : ¬ k x = some .local) : ∀ (binds : List (Str × Value)) (m : Str → Option Value), (binds.map (·.1)).Nodup → bindC k binds m x = match binds.lookup x with | some v => some v | none => m x
  | [], m, _ => rfl
  | (n, v) :: r, m, nd => by
    rw [List.map_cons, List.nodup_cons] at nd
    unfold bindC
    rw [bindC_of hx r _ nd.2, List.lookup_cons]
    cases q : x == n with
    | true =>
      have e := beq_iff_eq.mp q
      subst e
      have : r.lookup x = none := by
        rw [List.lookup_eq_none_iff]
        intro p hp
        rw [bne_iff_ne]
        intro z; exact nd.1 (List.mem_map.mpr ⟨p, hp, z.symm⟩)
      rw [this, if_neg hx]; simp
    | false =>
      have e : x ≠ n := by simpa using q
      cases r.lookup x with
      | some u => rfl
      | none => dsimp only; split <;> simp [e]
theorem zip_look {ps : List Str} {rs : List Value} (nd : ps.Nodup) (hl : rs.length = ps.length) {j : Nat} {x : Str} {v : Value} (hx : ps[j]? = some x) (hv : rs[j]? = some v) : (ps.zip rs).lookup x = some v := by
  refine lookup_nodup ?_ (List.mem_of_getElem? (i := j) ?_)
  · rw [List.map_fst_zip (by omega)]; exact nd
  · rw [List.getElem?_zip_eq_some]; exact ⟨hx, hv⟩
theorem zip_look_none {ps : List Str} {rs : List Value} {x : Str} (hx : x ∉ ps) : (ps.zip rs).lookup x = none := by
  rw [List.lookup_eq_none_iff]
  intro p hp
  rw [bne_iff_ne]
  intro z; exact hx (z ▸ (List.of_mem_zip hp).1)
theorem zi_mem {l : List Str} {n : Nat} {q : Str × Nat} : q ∈ l.zipIdx n ↔ ∃ i, l[i]? = some q.1 ∧ q.2 = n + i := by
  rw [List.mem_iff_getElem?]
  constructor
  · rintro ⟨i, hi⟩
    rw [List.getElem?_zipIdx] at hi
    cases e : l[i]? with
    | none => rw [e] at hi; cases hi
    | some x => rw [e] at hi; simp at hi; subst hi; exact ⟨i, e, rfl⟩
  · rintro ⟨i, h1, h2⟩
    refine ⟨i, ?_⟩
    rw [List.getElem?_zipIdx, h1]
    obtain ⟨x, m⟩ := q
    simp at h2 ⊢; omega
noncomputable def argOf (vs : List PV) (o : Option Nat) : Option PV := o.bind (vs[·]?)
theorem code_cells {P : Pg} {T : Tabs} {lv : Nat} {f : Addr} {fd : FuncData} {params keys gkeys cnames : List Str} {pk pc : List (Option Nat)} {body : List Stmt} {vs : List PV} {st : List Cell} {K : Out → Prop} (ok : FnOKC fd params keys gkeys cnames pk pc body) {k : Nat} (hk : T.fns[k]? = some (f, fd)) (hn : vs.length = params.length)
    (A : Around) (h : ∀ (L : Addr), Ex (mkCxC P T A fd L f keys gkeys cnames lv st.length) (pk.map (argOf vs)) (st ++ pc.map fun o => .cell (argOf vs o)) body K)
    (s : Shared) (ρ : List Addr) (F : Frz) (rs : List Value) (G : Gd P T) (hA : A.handled = none) (hro : A.depth + (lv + 1) < recursionLimit) (hu : A.units + 20 * (lv + 1) < cLine)
    (S : SimS P st ρ F s.heap) (hr : Reps ρ F rs vs) (R : Result → Shared → Prop)
    (hQ : ∀ v h' tk ρ' F' o, K o → RetSim P ρ' F' h' v o → ρ <+: ρ' → FLe F F' → R (.ok (.ret v)) (Rest s h' tk)) :
    codeAny (model P.prog P.w) A (.call (.ref f) ⟨rs, []⟩) R s := by
  obtain ⟨o, ho, hd, hcd⟩ := G.fns _ (List.mem_of_getElem? hk)
  have grd : ∀ x o, P.h0.get? x = some o → s.heap.get? x = some o := fun x o e => S.fin x o (S.gnd x o e)
  have hlr : rs.length = params.length := by rw [hr.length, hn]
  have ndz : ((params.zip rs).map (·.1)).Nodup := by rw [List.map_fst_zip (by omega)]; exact ok.ndp
  have clk : ∀ (m : Nat) (q : Str × Nat), q ∈ cnames.zipIdx m → (cellsFrom m fd.scope.names []).lookup q.1 = some q.2 := fun m q hq => by
    rw [ok.cs]
    refine lookup_nodup ?_ (List.mem_reverse.mpr hq)
    rw [List.map_reverse, List.zipIdx_map_fst]
    exact List.pairwise_reverse.mpr (ok.ndc.imp fun q => q.symm)
  refine codeAny_call_cells (fd := fd) (body := body) (binds := params.zip rs) (by omega) (grd _ _ ho) hd (G.nolim.keeps grd) (hcd.keeps grd) ok.body (ok.bind rs hlr) ok.clo (fun x hx => ?_) (fun s₁ X => ?_) ok.co ok.gen ok.kind
  · rcases ok.kp x.1 (List.of_mem_zip hx).1 with q | ⟨q1, q2⟩
    · exact .inl q
    · refine .inr ⟨q1, ?_⟩
      obtain ⟨i, hi⟩ := List.getElem?_of_mem q2
      rw [clk _ (x.1, s.heap.objs.size + 1 + i) (zi_mem.mpr ⟨i, hi, rfl⟩)]; rfl
  · obtain ⟨h1, tk1, rfl, hk1⟩ := X.done
    have fr := S.fresh (get_size (h := s.heap))
    have good : GoodCx (mkCxC P T A fd s.heap.objs.size f keys gkeys cnames lv st.length) :=
      ⟨G, hA, by show A.depth + 1 + lv < recursionLimit; omega, by show A.units + 3 + 20 * lv < cLine; omega, ok.kind, ok.locs, ok.globs, ok.nd, (fun q hq => .inl (ok.ckd q.1 (let ⟨i, hi, _⟩ := zi_mem.mp hq; List.mem_of_getElem? hi))), ok.glb, ok.blt⟩
    have hlocals : (callEnvC fd s.heap.objs.size f).locals = s.heap.objs.size := rfl
    have hcells : (callEnvC fd s.heap.objs.size f).cells = cellsFrom (s.heap.objs.size + 1) fd.scope.names [] := rfl
    have S0 : SimS P st ρ F h1 := S.keep fun a o e _ => hk1 a o e
    have hcell : ∀ i c, (pc.map fun o => Cell.cell (argOf vs o))[i]? = some c → CellAt ρ F h1 (s.heap.objs.size + 1 + i) c := by
      intro i c hi
      rw [List.getElem?_map] at hi
      cases e : pc[i]? with
      | none => rw [e] at hi; cases hi
      | some o' =>
        rw [e] at hi; cases hi
        have hil : i < cnames.length := ok.lc ▸ lt_of_get e
        have hx := List.getElem?_eq_getElem hil
        obtain ⟨ob, hob, hdd⟩ := X.cell cnames[i] (s.heap.objs.size + 1 + i) (clk _ (cnames[i], s.heap.objs.size + 1 + i) (zi_mem.mpr ⟨i, hx, rfl⟩))
        have hnl : ¬ (callEnvC fd s.heap.objs.size f).kindOf cnames[i] = some .local := by
          have := ok.ckd cnames[i] (List.getElem_mem hil)
          show ¬ fd.scope.names.lookup cnames[i] = some .local
          rw [this]; intro z; cases z
        rw [bindC_of hnl _ _ ndz] at hdd
        have hz := ok.hpc (cnames[i], o') (List.mem_of_getElem? (i := i) (by rw [List.getElem?_zip_eq_some]; exact ⟨hx, e⟩))
        cases o' with
        | none => rw [zip_look_none hz] at hdd; exact ⟨ob, hob, hdd⟩
        | some j =>
          have hjl : j < vs.length := hn ▸ lt_of_get hz
          obtain ⟨v, hv, rv⟩ := hr.get (List.getElem?_eq_getElem hjl)
          rw [zip_look ok.ndp hlr hz hv] at hdd
          have ea : argOf vs (some j) = some vs[j] := by show vs[j]? = _; exact List.getElem?_eq_getElem hjl
          show CellAt ρ F h1 _ (.cell (argOf vs (some j)))
          rw [ea]
          exact ⟨ob, v, hob, hdd, rv⟩
    have hfresh : ∀ i, s.heap.objs.size ≤ i → F i = none ∧ i ∉ ρ := fun i hi => S.fresh (Heap.get?_none_of_le hi)
    have S1 := SimS.claims (pc.map fun o => Cell.cell (argOf vs o)) (s.heap.objs.size + 1) st ρ S0 (fun i hi => hfresh _ (by omega)) hcell
    rw [List.length_map, ok.lc] at S1
    have SS : Sim (mkCxC P T A fd s.heap.objs.size f keys gkeys cnames lv st.length) (pk.map (argOf vs)) (st ++ pc.map fun o => .cell (argOf vs o)) (ρ ++ List.range' (s.heap.objs.size + 1) cnames.length) F h1 := by
      refine ⟨good, S1, fr.1, ?_, by rw [List.length_map]; exact ok.lk, fun q hq => ?_, _, X.toInCall.ns, fun i x hx => ?_⟩
      · rw [List.mem_append]; rintro (q | q)
        · exact fr.2 q
        · have this : s.heap.objs.size + 1 ≤ s.heap.objs.size := (List.mem_range'_1.mp q).1
          have e : (mkCxC P T A fd s.heap.objs.size f keys gkeys cnames lv st.length).env.locals = s.heap.objs.size := rfl
          omega
      · obtain ⟨i, hi, e⟩ := zi_mem.mp hq
        refine ⟨s.heap.objs.size + 1 + i, clk _ (q.1, s.heap.objs.size + 1 + i) (zi_mem.mpr ⟨i, hi, rfl⟩), ?_⟩
        rw [e, ← S.len, List.getElem?_append_right (by omega), show ρ.length + i - ρ.length = i by omega, List.getElem?_range' (lt_of_get hi)]; simp
      · have hx' : keys[i]? = some x := hx
        have hkl : (callEnvC fd s.heap.objs.size f).kindOf x = some .local := ok.locs x (List.mem_of_getElem? hx')
        rw [bindL_of hkl _ _ ndz, List.getElem?_map]
        cases e : pk[i]? with
        | none => exact trivial
        | some o' =>
          have hz := ok.hpk (x, o') (List.mem_of_getElem? (i := i) (by rw [List.getElem?_zip_eq_some]; exact ⟨hx', e⟩))
          cases o' with
          | none => exact trivial
          | some j =>
            have hjl : j < vs.length := hn ▸ lt_of_get hz
            obtain ⟨v, hv, rv⟩ := hr.get (List.getElem?_eq_getElem hjl)
            rw [zip_look ok.ndp hlr hz hv]
            show LocAt _ _ _ (some (vs[j]?))
            rw [List.getElem?_eq_getElem hjl]
            exact ⟨v, rfl, rv.mono (List.prefix_append _ _) (FLe.refl _)⟩
    refine wpAny_mono ((h s.heap.objs.size).run (Rest s h1 tk1) _ F SS (fun fl s' => R (.ok (.ret (match fl with | .ret v => v | _ => .none))) s') fun o ko fl h' tk ρ' F' os p g => ?_) (fun _ _ x => x) fun _ _ x => x.elim
    have p' := (List.prefix_append ρ _).trans p
    cases o with
    | ret q st2 =>
      obtain ⟨v, rfl, rv, S2, _⟩ := os
      exact hQ v h' tk ρ' F' _ ko ⟨rv, S2⟩ p' g
    | next lo2 st2 =>
      obtain ⟨rfl, S2⟩ := os
      exact hQ .none h' tk ρ' F' _ ko ⟨rfl, S2.s⟩ p' g
    | brk lo2 st2 =>
      obtain ⟨rfl, S2⟩ := os
      exact hQ .none h' tk ρ' F' _ ko trivial p' g
    | cont lo2 st2 =>
      obtain ⟨rfl, S2⟩ := os
      exact hQ .none h' tk ρ' F' _ ko trivial p' g
end Mine
end
section
open PySem PySem.W PySem.Calls PyProof.Rows PySem.Builtin.Str
set_option Elab.async false
set_option autoImplicit false
set_option linter.all false
set_option maxRecDepth 100000
namespace Mine
/-- a def with cells: what it made may be let go -/
theorem clc_drop {P : Pg} {T : Tabs} {lv : Nat} {f : Addr} {fd : FuncData} {params keys gkeys cnames : List Str} {pk pc : List (Option Nat)} {body : List Stmt} {vs : List PV} {st st' : List Cell} {r : PV} (ok : FnOKC fd params keys gkeys cnames pk pc body) {k : Nat} (hk : T.fns[k]? = some (f, fd)) (hn : vs.length = params.length)
    (hl : st'.length = st.length) (hr : Low st.length r) (hc : (∀ c ∈ st, CellLow st.length c) → ∀ c ∈ st', CellLow st.length c)
    (h : ∀ (A : Around) (L : Addr), Ex (mkCxC P T A fd L f keys gkeys cnames lv st.length) (pk.map (argOf vs)) (st ++ pc.map fun o => .cell (argOf vs o)) body (fun o => ∃ g, RetIs r (st' ++ g) o)) : Cl P T (lv + 1) (.ref f) vs st r st' := by
  intro A s ρ F rs G hA hro hu S hrs Q hQ
  have e : ρ.length = st.length := S.len
  have D : ∀ g, (∀ v h' tk ρ' F', Rep ρ' F' v r → SimS P (st' ++ g) ρ' F' h' → ρ <+: ρ' → FLe F F' → Q v (Rest s h' tk)) := fun g v h' tk ρ' F' rv S' p g =>
    hQ v h' tk ρ F' (rv.narrow p (e ▸ hr)) (S'.forget p (e.trans hl.symm) (by rw [hl]; exact hc S.lows) S.tb) (List.prefix_refl _) g
  refine wpAny_call (code_cells ok hk hn A (h A) s ρ F rs G hA hro hu S hrs _ fun v h' tk ρ' F' o ko hv p f => ?_)
  obtain ⟨g, ko⟩ := ko
  cases o with
  | ret q st2 =>
    obtain ⟨rfl, rfl⟩ := ko
    exact D g v h' tk ρ' F' hv.1 hv.2 p f
  | next lo2 st2 =>
    obtain ⟨rfl, rfl⟩ := ko
    obtain ⟨rfl, S2⟩ := hv
    exact D g .none h' tk ρ' F' .none S2 p f
  | brk _ _ => exact ko.elim
  | cont _ _ => exact ko.elim
theorem clc_drop' {P : Pg} {T : Tabs} {lv : Nat} {f : Addr} {fd : FuncData} {params keys gkeys cnames : List Str} {pk pc : List (Option Nat)} {body : List Stmt} {vs : List PV} {st : List Cell} {r : PV} (ok : FnOKC fd params keys gkeys cnames pk pc body) {k : Nat} (hk : T.fns[k]? = some (f, fd)) (hn : vs.length = params.length)
    (hr : Low st.length r) (h : ∀ (A : Around) (L : Addr), Ex (mkCxC P T A fd L f keys gkeys cnames lv st.length) (pk.map (argOf vs)) (st ++ pc.map fun o => .cell (argOf vs o)) body (fun o => ∃ g, RetIs r (st ++ g) o)) : Cl P T (lv + 1) (.ref f) vs st r st :=
  clc_drop ok hk hn rfl hr (fun x => x) h
theorem clc_def {P : Pg} {T : Tabs} {lv : Nat} {f : Addr} {fd : FuncData} {params keys gkeys cnames : List Str} {pk pc : List (Option Nat)} {body : List Stmt} {vs : List PV} {st st' : List Cell} {r : PV} (ok : FnOKC fd params keys gkeys cnames pk pc body) {k : Nat} (hk : T.fns[k]? = some (f, fd)) (hn : vs.length = params.length)
    (h : ∀ (A : Around) (L : Addr), Ex (mkCxC P T A fd L f keys gkeys cnames lv st.length) (pk.map (argOf vs)) (st ++ pc.map fun o => .cell (argOf vs o)) body (RetIs r st')) : Cl P T (lv + 1) (.ref f) vs st r st' := by
  intro A s ρ F rs G hA hro hu S hrs Q hQ
  refine wpAny_call (code_cells ok hk hn A (h A) s ρ F rs G hA hro hu S hrs _ fun v h' tk ρ' F' o ko hv p f => ?_)
  cases o with
  | ret q st2 => obtain ⟨rfl, rfl⟩ := ko; exact hQ v h' tk ρ' F' hv.1 hv.2 p f
  | next lo2 st2 =>
    obtain ⟨rfl, rfl⟩ := ko
    obtain ⟨rfl, S2⟩ := hv
    exact hQ .none h' tk ρ' F' .none S2 p f
  | brk _ _ => exact ko.elim
  | cont _ _ => exact ko.elim
section
variable {C : Cx} {lo : List (Option PV)} {st st1 st2 st3 : List Cell} {pos : Pos} {a b c r p : PV} {K : Out → Prop} {rest : List Stmt} {x : Str} {px : Pos} {body : List Stmt} {items xs vs : List PV} {i j lv : Nat} {es : List (Str × PV)} {name : Str}
theorem ex_def {params : Arguments} {fbody : List Stmt} {scope : Scope} {clos : List (Str × Addr)} {cs : List (Str × Nat)} {ps : List Pos} (qual : Str) (i : Nat)
    (hco : ClosOf C clos cs) (h0 : st[0]? = some (.tab ps)) (hps : ∀ q ∈ ps, ¬ (q.line = pos.line ∧ q.col = pos.col)) (k : Ex C (lo.set i (some (.loc (st.length + 1)))) (st.set 0 (.tab (pos :: ps)) ++ [.code qual, .fn name qual params fbody scope cs st.length]) rest K)
    (hcl : closureFor scope C.env = pure clos := by rfl) (hqn : qualnameIn C.env name name = qual := by rfl) (hcode : C.env.code = .ref C.T.kcode := by rfl) (hx : C.keys[i]? = some name := by rfl) (hd0 : params.defaults = [] := by rfl) (hk0 : params.kw_defaults = [] := by rfl) (ha : annTrees params none C.env = [] := by rfl) :
    Ex C lo st (.FunctionDef name params fbody [] none [] scope none name pos :: rest) K := by
  refine ex_cons fun s ρ F S Q hQ => nestDef_K hd0 hk0 ha ?_
  rw [hqn]
  refine wp_nest S hcl hco hcode h0 hps fun v h' tk ρ' rv S' p => ?_
  exact S'.storeName hx rv fun h2 tk2 S2 => hQ (.next _ _) k _ h2 tk2 ρ' F ⟨rfl, S2⟩ p (FLe.refl _)
theorem ex_cdef {params : Arguments} {fbody : List Stmt} {scope : Scope} {clos : List (Str × Addr)} {cs : List (Str × Nat)} {ps : List Pos} {v0 : Option PV} (qual : Str) (i : Nat)
    (hco : ClosOf C clos cs) (h0 : st[0]? = some (.tab ps)) (hps : ∀ q ∈ ps, ¬ (q.line = pos.line ∧ q.col = pos.col)) (hj : (st.set 0 (.tab (pos :: ps)) ++ [Cell.code qual, Cell.fn name qual params fbody scope cs st.length])[j]? = some (.cell v0)) (k : Ex C lo ((st.set 0 (.tab (pos :: ps)) ++ [Cell.code qual, Cell.fn name qual params fbody scope cs st.length]).set j (.cell (some (.loc (st.length + 1))))) rest K)
    (hcl : closureFor scope C.env = pure clos := by rfl) (hqn : qualnameIn C.env name name = qual := by rfl) (hcode : C.env.code = .ref C.T.kcode := by rfl) (hx : C.ckeys[i]? = some (name, j) := by rfl) (hkk : C.env.kindOf name = some .cell := by rfl) (hd0 : params.defaults = [] := by rfl) (hk0 : params.kw_defaults = [] := by rfl) (ha : annTrees params none C.env = [] := by rfl) :
    Ex C lo st (.FunctionDef name params fbody [] none [] scope none name pos :: rest) K := by
  refine ex_cons fun s ρ F S Q hQ => nestDef_K hd0 hk0 ha ?_
  rw [hqn]
  refine wp_nest S hcl hco hcode h0 hps fun v h' tk ρ' rv S' p => ?_
  exact S'.storeCell hx hj hkk rv fun h2 tk2 S2 => hQ (.next _ _) k _ h2 tk2 ρ' F ⟨rfl, S2⟩ p (FLe.refl _)
end
end Mine
end
section
open PySem PySem.W PySem.Calls PyProof.Rows PySem.Builtin.Str
set_option Elab.async false
set_option autoImplicit false
set_option linter.all false
set_option maxRecDepth 100000
namespace Mine
/-- a list comprehension's loop -/
noncomputable def Cp (C : Cx) (lo : List (Option PV)) (st : List Cell) (x : Str) (px : Pos) (elt iter : Expr) (scope : Scope) (pos : Pos) (m : Nat) (items : List PV) (stB : List Cell) : Prop :=
  ∀ (s : Shared) (ρ : List Addr) (F : Frz) (I : Addr) (fp : List Addr) (n i : Nat) (P : Nat → Value → Prop) (St : Nat → Heap → Prop) (aa : Addr), Sim C lo st ρ F s.heap →
    Walks C.P.prog C.P.w C.A I fp [I] n P St → (∀ b ∈ fp, b = I ∨ (F b).isSome = true) → F I = none → I ∉ ρ → I ≠ C.env.locals → i + items.length = n → St i s.heap →
    (∀ (i : Nat) (h : Heap), St i h → ∃ o, h.get? I = some o ∧ NotData o) →
    (∀ (k : Nat) (p : PV), items[k]? = some p → ∀ v, P (i + k) v → Rep ρ F v p) → ρ[m]? = some aa →
    ∀ R : Result → Shared → Prop, (∀ lo' h' tk ρ' F', Sim C lo' stB ρ' F' h' → ρ <+: ρ' → FLe F F' → R (.ok .next) (Rest s h' tk)) →
    codeAny (model C.P.prog C.P.w) C.A (.compLoop (.ListComp elt [⟨.Name x px, iter, [], 0⟩] scope pos) 0 (.ref I) (.ref aa) C.env) R s
section
variable {C : Cx} {lo : List (Option PV)} {st st1 st2 st3 stB : List Cell} {pos : Pos} {a b c r p : PV} {K : Out → Prop} {rest : List Stmt} {x : Str} {px : Pos} {elt iter : Expr} {scope : Scope} {items xs vs : List PV} {i j m lv : Nat}
theorem cp_nil : Cp C lo st x px elt iter scope pos m [] st := by
  intro s ρ F I fp n i P St aa S W hfp hFI hI hL hn hst hob hP haa R hR
  have e : i = n := by simpa using hn
  subst e
  refine codeAny_of_tree ?_
  show wpAny _ _ ((compTurn (.ListComp elt [⟨.Name x px, iter, [], 0⟩] scope pos) 0 (.ref I) (.ref aa) C.env).onRaise (fun x => do noteFrame x C.env; theTreesLotGoes x)) _ _ s
  refine wpAny_noted ?_
  rw [compTurn_list1]
  refine wpAny_bind (wpAny_standAt (wpAny_bind ?_))
  exact W.done _ _ _ hst fun h1 tk1 hk1 => wpAny_pure (hR lo h1 tk1 ρ F (S.keep (keep_off hFI hI hL hk1)) (List.prefix_refl _) (FLe.refl _))
theorem cp_cons (hx : C.keys[0]? = some x) (he : Ev C (lo.set 0 (some p)) st elt r st1) (hm : st1[m]? = some (.list xs)) (hz : xs.length < 1000) (hs : Cp C (lo.set 0 (some p)) (st1.set m (.list (xs ++ [r]))) x px elt iter scope pos m items stB) :
    Cp C lo st x px elt iter scope pos m (p :: items) stB := by
  intro s ρ F I fp n j P St aa S W hfp hFI hI hL hn hst hob hP haa R hR
  have hg : C.P.h0.get? I = none := S.h0_none hFI
  refine codeAny_of_tree ?_
  show wpAny _ _ ((compTurn (.ListComp elt [⟨.Name x px, iter, [], 0⟩] scope pos) 0 (.ref I) (.ref aa) C.env).onRaise (fun x => do noteFrame x C.env; theTreesLotGoes x)) _ _ s
  refine wpAny_noted ?_
  rw [compTurn_list1]
  refine wpAny_bind (wpAny_standAt (wpAny_bind ?_))
  refine W.item j _ _ _ (by simp at hn; omega) hst fun v h2 tk2 hPv hst2 hk2 => ?_
  refine wpAny_bind (wpAny_of_eq (show letOwnedTupleGo (.Name x px) (.ref I) v = pure () from rfl) ?_)
  have S2 : Sim C lo st ρ F h2 := S.keep (keep_off hFI hI hL hk2)
  obtain ⟨o2, ho2, hd2⟩ := hob _ _ hst2
  have Sf := S2.freeze hFI hI hL ho2
  have le := addF_le (o := o2) hFI
  refine wpAny_bind (wpAny_assign_Name (Sf.storeName hx ((hP 0 p rfl v hPv).mono (List.prefix_refl _) le) fun h3 tk3 S3 => ?_))
  refine wpAny_bind (wpAny_bind (wpAny_noE (he.run _ ρ _ S3 _ fun u h4 tk4 ρ4 F4 ru S4 p4 g4 => ?_)))
  have haa4 := pre_get p4 haa
  refine wpAny_bind (wpAny_noE ((cl_append (P := C.P) (T := C.T) (lv := 0) hm hz).use (Nat.zero_le _) (s := Rest (Rest (Rest (Rest s h2 tk2) h3 tk3) h3 tk3) h4 tk4) S4 (.cons (.loc haa4) (.cons ru .nil)) fun v5 h5 tk5 ρ5 F5 rv5 S5 p5 g5 => ?_))
  refine wpAny_pure (wpAny_pure ⟨rfl, ?_⟩)
  have hI5 : F5 I = some o2 := g5 _ _ (g4 _ _ addF_self)
  have leD : FLe F (delF F5 I) := delF_le hFI (le.trans (g4.trans g5))
  have S6 := S5.thaw hI5 hd2 hg
  have hI' : I ∉ ρ5 := fun q => by have := S5.s.off _ q; rw [hI5] at this; cases this
  have p45 := p4.trans p5
  refine hs _ ρ5 (delF F5 I) I fp n (j + 1) P St aa S6 W (fun b hb => (hfp b hb).imp id fun q => ?_) (by unfold delF; rw [if_pos rfl]) hI' hL (by simp at hn ⊢; omega) (W.frame _ _ _ hst2 fun b hb o e => ?_) hob (fun k q hk v hv => ?_) (pre_get p45 haa) R fun lo' h6 tk6 ρ6 F6 os6 p6 g6 => hR lo' h6 tk6 ρ6 F6 os6 (p45.trans p6) (leD.trans g6)
  · obtain ⟨o, e⟩ := Option.isSome_iff_exists.mp q
    rw [leD _ _ e]; rfl
  · rcases hfp b hb with z | q
    · subst z; rw [ho2] at e; cases e; exact S5.s.fin _ _ hI5
    · obtain ⟨o', e'⟩ := Option.isSome_iff_exists.mp q
      have := S2.s.fin _ _ e'
      rw [e] at this; cases this
      exact S5.s.fin _ _ (g5 _ _ (g4 _ _ (le _ _ e')))
  · exact (hP (k + 1) q hk v (by rw [show j + (k + 1) = j + 1 + k by omega]; exact hv)).mono p45 leD

noncomputable def compCx (C : Cx) (scope : Scope) (cl : List (Str × Addr)) (x : Str) (gk : List Str) (ck : List (Str × Nat)) (L : Addr) : Cx :=
  { P := C.P, T := C.T, A := C.A, env := compEnvC scope cl L C.env, keys := [x], gkeys := gk, lv := C.lv, ckeys := ck }
/-- what a comprehension asks of its scope -/
structure CompOK (C : Cx) (scope : Scope) (cl : List (Str × Addr)) (x : Str) (gk : List Str) (ck : List (Str × Nat)) : Prop where
  clos : closureFor scope C.env = pure cl
  nocell : ∀ y ∈ scope.names, y.2 ≠ .cell
  kind : scope.kind = .function
  names : ∀ y ∈ scope.names, y.2 = .local → scope.names.lookup y.1 = some .local
  var : scope.names.lookup x = some .local
  gks : ∀ y ∈ gk, (relabel scope C.env).names.lookup y = some .globalImplicit
  cks : ∀ q ∈ ck, (relabel scope C.env).names.lookup q.1 = some .cell ∨ (relabel scope C.env).names.lookup q.1 = some .free
  cel : ∀ q ∈ ck, ∃ a, cl.lookup q.1 = some a ∧ C.env.cells.lookup q.1 = some a ∧ q ∈ C.ckeys
theorem comp_core {s : Shared} {ρ : List Addr} {F : Frz} {cl : List (Str × Addr)} {gk : List Str} {ck : List (Str × Nat)} {p' : Pos} {use : Option (Value → Sem Unit)} {Q : Value → Shared → Prop} (S : Sim C lo st ρ F s.heap) (hi : It C lo st iter items st1) (ok : CompOK C scope cl x gk ck)
    (hrun : ∀ L, Cp (compCx C scope cl x gk ck L) [none] (st1 ++ [.list []]) x px elt iter scope pos st1.length items stB) (hs : ∀ x, foldedSetIterable iter C.env x = pure x)
    (hQ : ∀ (L : Addr) (aa : Addr) (oLL : Obj) (h' : Heap) (tk : Nat) (ρ' : List Addr) (F' : Frz), Sim C lo stB ρ' F' h' → ρ <+: ρ' → FLe F F' → ρ'[st1.length]? = some aa → F' L = none → L ∉ ρ' → L ≠ C.env.locals → h'.get? L = some oLL → (∃ m, h'.Ns L m) →
      compPost (model C.P.prog C.P.w) C.A NoE use Q (.ref aa) L (.ok .next) (Rest s h' tk)) :
    wpAny (model C.P.prog C.P.w) C.A (comprehension (.ListComp elt [⟨.Name x px, iter, [], 0⟩] scope pos) scope C.env p' (newList []) false (eval iter C.env) use) Q NoE s := by
  refine wpAny_comprehension_free (use := use) rfl hs ok.clos ok.kind ok.names (hi.run s ρ F S _ fun h' tk ρ1 F1 I fp n P St S1 p1 f1 W hfp hFI hI hL hn hst hob hP => ?_)
  obtain ⟨oL, nd, le, SF, back⟩ := S1.frz
  refine wpAny_newObj_type ?_ (by size_fits)
  dsimp only
  have pre : ρ1 <+: ρ1 ++ [h'.objs.size] := List.prefix_append _ _
  have S2 := SF.addCell (c := .list []) (get_size (h := h')) (h' := h'.push (listOf #[] 0)) ⟨#[], 0, Heap.get?_push_size _ rfl, .nil, by decide⟩ (fun b q e => Heap.get?_push_of_some _ e)
  refine wpAny_newFunctionEnv ok.nocell (by intro y hy; simp at hy) (fun h3 hns hsb => ?_) ok.kind
  dsimp only at hns hsb ⊢
  have hk3 : ∀ b o, (h'.push (listOf #[] 0)).get? b = some o → h3.get? b = some o := fun b o e => hsb.extBut b o (Nat.ne_of_lt (Heap.lt_size e)) (Heap.get?_push_of_some _ e)
  have S3 := S2.keep (h' := h3) fun a o e _ => hk3 a o e
  have frL := S2.fresh (get_size (h := h'.push (listOf #[] 0)))
  have kL : addF F1 C.env.locals oL C.env.locals = some oL := addF_self
  have hLne : (h'.push (listOf #[] 0)).objs.size ≠ C.env.locals := fun z => by
    have := S2.fin _ _ kL
    rw [← z, get_size] at this; cases this
  have good : GoodCx (compCx C scope cl x gk ck (h'.push (listOf #[] 0)).objs.size) :=
    ⟨S.good.gd, S.good.hd, S.good.room, S.good.units, ok.kind, fun y hy => by rw [List.mem_singleton.mp hy]; exact lookup_relabel_local ok.var, ok.gks, (by show [x].Nodup; simp), ok.cks, S.good.glb, S.good.blt⟩
  have SK : Sim (compCx C scope cl x gk ck (h'.push (listOf #[] 0)).objs.size) [none] (st1 ++ [.list []]) (ρ1 ++ [h'.objs.size]) (addF F1 C.env.locals oL) h3 := by
    refine ⟨good, S3, frL.1, frL.2, rfl, fun q hq => ?_, _, hns, fun i y hy => ?_⟩
    · obtain ⟨a, e1, e2, e3⟩ := ok.cel q hq
      obtain ⟨a', e4, e5⟩ := S1.cel q e3
      rw [e2] at e4; cases e4
      exact ⟨a, e1, pre_get pre e5⟩
    · cases i with
      | zero => exact trivial
      | succ i => exact trivial
  have old : ∀ b o, h'.get? b = some o → h3.get? b = some o := fun b o e => hk3 b o (Heap.get?_push_of_some _ e)
  have hst3 : St 0 h3 := W.frame _ _ _ hst fun b _ o e => old b o e
  obtain ⟨oI, hoI, _⟩ := hob 0 _ hst
  have hIne : I ≠ (h'.push (listOf #[] 0)).objs.size := Nat.ne_of_lt (by rw [Heap.size_push]; exact Nat.lt_succ_of_lt (Heap.lt_size hoI))
  have hIF : addF F1 C.env.locals oL I = none := by unfold addF; rw [if_neg hL]; exact hFI
  have hIr : I ∉ ρ1 ++ [h'.objs.size] := by
    rw [List.mem_append, List.mem_singleton]; rintro (z | z)
    · exact hI z
    · rw [z, get_size] at hoI; cases hoI
  have haa : (ρ1 ++ [h'.objs.size])[st1.length]? = some h'.objs.size := at_new S1
  have loop : ∀ s3 : Shared, s3 = Rest s h3 (tk + ([] : List (Str × Value)).length) → codeAny (model C.P.prog C.P.w) C.A (.compLoop (.ListComp elt [⟨.Name x px, iter, [], 0⟩] scope pos) 0 (.ref I) (.ref h'.objs.size) (compEnvC scope cl (h'.push (listOf #[] 0)).objs.size C.env)) (compPost (model C.P.prog C.P.w) C.A NoE use Q (.ref h'.objs.size) (h'.push (listOf #[] 0)).objs.size) s3 := by
    rintro s3 rfl
    refine hrun _ _ (ρ1 ++ [h'.objs.size]) _ I fp n 0 P St h'.objs.size SK W (fun b hb => (hfp b hb).imp id fun q => ?_) hIF hIr hIne (by omega) hst3 hob (fun k q hk v hv => (hP k q hk v (by simpa using hv)).mono pre le) haa _ fun lo' h6 tk6 ρ6 F6 S6 p6 g6 => ?_
    · obtain ⟨o, e⟩ := Option.isSome_iff_exists.mp q
      rw [le _ _ e]; rfl
    · obtain ⟨_, SC, gC⟩ := back (r := .none) (v := .none) .none S6.s (pre.trans p6) g6
      obtain ⟨m6, hn6, _⟩ := S6.ns
      obtain ⟨oLL, _, _, hoL, _⟩ := id hn6
      exact hQ _ _ oLL h6 tk6 ρ6 _ SC (p1.trans (pre.trans p6)) (f1.trans gC) (pre_get p6 haa) (by unfold delF; split <;> first | rfl | exact S6.L1) S6.L2 hLne hoL ⟨m6, hn6⟩
  exact codeAny_compStart_list (loop _ rfl) (W.self 0 _ _ _ hst3 (loop _ rfl))
theorem ev_listcomp {cl : List (Str × Addr)} {gk : List Str} {ck : List (Str × Nat)} (hi : It C lo st iter items st1) (ok : CompOK C scope cl x gk ck)
    (hrun : ∀ L, Cp (compCx C scope cl x gk ck L) [none] (st1 ++ [.list []]) x px elt iter scope pos st1.length items stB) (hs : ∀ x, foldedSetIterable iter C.env x = pure x := by intro _; rfl) :
    Ev C lo st (.ListComp elt [⟨.Name x px, iter, [], 0⟩] scope pos) (.loc st1.length) stB := by
  refine .mk fun s ρ F S Q hQ => ?_
  rw [eval_ListComp]
  refine comp_core (use := none) S hi ok hrun hs fun L aa oLL h' tk ρ' F' SC p f ha hFL hLr hLne hoL hm => ?_
  obtain ⟨m, hm⟩ := hm
  refine ⟨m, hm, fun h2 hs2 => hQ _ h2 tk ρ' F' (.loc ha) (SC.keep fun a o e q => (hs2.2 a fun z => ?_).trans e) p f⟩
  subst z
  rcases q with q | q | q
  · exact hLr q
  · rw [hFL] at q; cases q
  · exact hLne q
theorem ex_assign_comp {y : Str} {py spos : Pos} {cl : List (Str × Addr)} {gk : List Str} {ck : List (Str × Nat)} (i : Nat) (hi : It C lo st iter items st1) (ok : CompOK C scope cl x gk ck)
    (hrun : ∀ L, Cp (compCx C scope cl x gk ck L) [none] (st1 ++ [.list []]) x px elt iter scope pos st1.length items stB) (k : Ex C (lo.set i (some (.loc st1.length))) stB rest K) (hy : C.keys[i]? = some y := by rfl) (hs : ∀ x, foldedSetIterable iter C.env x = pure x := by intro _; rfl)
    (hsw : swapsWith (.ListComp elt [⟨.Name x px, iter, [], 0⟩] scope pos) (some (.Name y py)) spos.line C.env = pure true := by rfl) :
    Ex C lo st (.Assign [.Name y py] (.ListComp elt [⟨.Name x px, iter, [], 0⟩] scope pos) spos :: rest) K := by
  refine ex_cons fun s ρ F S Q hQ => ?_
  rw [exec_Assign_Name_used _ _ _ _ hsw]
  refine wpAny_bind (wpAny_standAt (wpAny_bind ?_))
  show wpAny _ C.A (do let _ ← comprehension (.ListComp elt [⟨.Name x px, iter, [], 0⟩] scope pos) scope C.env _ (newList []) false (eval iter C.env) (some (assign (.Name y py) C.env))) _ _ s
  refine wpAny_bind (wpAny_mono (comp_core (use := some (assign (.Name y py) C.env)) (Q := fun _ s' => Q .next s') S hi ok hrun hs fun L aa oLL h' tk ρ' F' SC p f ha hFL hLr hLne hoL hm => ?_) (fun _ s' hq => wpAny_pure (wpAny_pure hq)) fun _ _ e => e)
  obtain ⟨m, oo, es, ep, e, hr⟩ := hm
  rw [hoL] at e; cases e
  have dL := hr.1
  have nd : NotData oLL := ⟨fun vs e => (by rw [e] at dL; cases dL), fun C d e => (by rw [e] at dL; cases dL)⟩
  have SF := SC.freeze hFL hLr hLne hoL
  have leF := addF_le (o := oLL) hFL
  refine wpAny_assign_Name (SF.storeName hy (.loc ha) fun h2 tk2 S2 => ?_)
  have hg := S2.s.fin _ _ (addF_self (F := F') (a := L) (o := oLL))
  refine ⟨m, ⟨oLL, es, ep, hg, hr⟩, fun h3 hs3 => ?_⟩
  have S3 := S2.thaw (a := L) (o := oLL) addF_self nd (SC.h0_none hFL)
  have S4 := S3.keep (h' := h3) fun a o e q => (hs3.2 a fun z => by
    subst z
    rcases q with q | q | q
    · exact hLr q
    · unfold delF at q; rw [if_pos rfl] at q; cases q
    · exact hLne q).trans e
  exact hQ (.next _ _) k _ h3 _ ρ' _ ⟨rfl, S4⟩ p (f.trans (delF_le hFL leF))
end
end Mine
end
section
open PySem PySem.W PySem.Calls PyProof.Rows
set_option Elab.async false
set_option autoImplicit false
set_option linter.all false
set_option maxRecDepth 100000
namespace Mine
theorem ok_law_marked : FnOKC fd_law_marked ["radix", "one", "wides", "numbers"] ["radix", "wides", "numbers", "number", "which"] ["sum", "range", "len", "_law_number"] ["one"] [some 0, some 2, some 3, none, none] [some 1] (bodyOf 108) where
  body := rfl
  bind := fun rs h => by match rs, h with | [_, _, _, _], _ => rfl
  clo := rfl
  kp := by decide +kernel
  locs := by decide +kernel
  globs := by decide +kernel
  ckd := by decide +kernel
  cs := fun n => rfl
  nd := by decide +kernel
  ndc := by decide +kernel
  ndp := by decide +kernel
  lk := rfl
  lc := rfl
  hpk := by intro q hq; simp only [List.zip_cons_cons, List.zip_nil_right, List.mem_cons, List.not_mem_nil, or_false] at hq; rcases hq with rfl | rfl | rfl | rfl | rfl <;> first | rfl | decide +kernel
  hpc := by intro q hq; simp only [List.zip_cons_cons, List.zip_nil_right, List.mem_cons, List.not_mem_nil, or_false] at hq; rcases hq with rfl <;> first | rfl | decide +kernel
  kind := rfl
  co := rfl
  gen := rfl
  glb := rfl
  blt := rfl
theorem ok_evaluate : FnOKC fd_evaluate ["e", "ctx"] ["e", "tag"] [] ["ctx"] [some 0, none] [some 1] (bodyOf 69) where
  body := rfl
  bind := fun rs h => by match rs, h with | [_, _], _ => rfl
  clo := rfl
  kp := by decide +kernel
  locs := by decide +kernel
  globs := by decide +kernel
  ckd := by decide +kernel
  cs := fun n => rfl
  nd := by decide +kernel
  ndc := by decide +kernel
  ndp := by decide +kernel
  lk := rfl
  lc := rfl
  hpk := by intro q hq; simp only [List.zip_cons_cons, List.zip_nil_right, List.mem_cons, List.not_mem_nil, or_false] at hq; rcases hq with rfl | rfl <;> first | rfl | decide +kernel
  hpc := by intro q hq; simp only [List.zip_cons_cons, List.zip_nil_right, List.mem_cons, List.not_mem_nil, or_false] at hq; rcases hq with rfl <;> first | rfl | decide +kernel
  kind := rfl
  co := rfl
  gen := rfl
  glb := rfl
  blt := rfl
theorem ok_law_kernel : FnOKC fd_law_kernel ["wides", "numbers"] ["_law_context", "_law_back", "_law_late", "_law_monitor"] ["Thread"] ["wides", "numbers", "_law_get", "kernel"] [none, none, none, none] [some 0, some 1, none, none] (bodyOf 110) where
  body := rfl
  bind := fun rs h => by match rs, h with | [_, _], _ => rfl
  clo := rfl
  kp := by decide +kernel
  locs := by decide +kernel
  globs := by decide +kernel
  ckd := by decide +kernel
  cs := fun n => rfl
  nd := by decide +kernel
  ndc := by decide +kernel
  ndp := by decide +kernel
  lk := rfl
  lc := rfl
  hpk := by intro q hq; simp only [List.zip_cons_cons, List.zip_nil_right, List.mem_cons, List.not_mem_nil, or_false] at hq; rcases hq with rfl | rfl | rfl | rfl <;> first | rfl | decide +kernel
  hpc := by intro q hq; simp only [List.zip_cons_cons, List.zip_nil_right, List.mem_cons, List.not_mem_nil, or_false] at hq; rcases hq with rfl | rfl | rfl | rfl <;> first | rfl | decide +kernel
  kind := rfl
  co := rfl
  gen := rfl
  glb := rfl
  blt := rfl
theorem ok_law : FnOKC fd_law ["script"] ["script", "turn", "wides", "numbers", "kernel", "thread", "strange", "due_out", "due_events", "due_monitors", "late", "stem", "radix", "given", "spot", "sort", "kept", "name", "told", "which", "other_name", "refused", "error"]
    ["_law_pool", "range", "_law_kernel", "Thread", "_law_drawn", "list", "show_task", "_law_shown", "run_late", "DesignError"] ["pool"]
    (some 0 :: List.replicate 22 none) [none] (bodyOf 111) where
  body := rfl
  bind := fun rs h => by match rs, h with | [_], _ => rfl
  clo := rfl
  kp := by decide +kernel
  locs := by decide +kernel
  globs := by decide +kernel
  ckd := by decide +kernel
  cs := fun n => rfl
  nd := by decide +kernel
  ndc := by decide +kernel
  ndp := by decide +kernel
  lk := rfl
  lc := rfl
  hpk := by
    intro q hq
    simp only [List.replicate, List.zip_cons_cons, List.zip_nil_right, List.mem_cons, List.not_mem_nil, or_false] at hq
    rcases hq with rfl | rfl | rfl | rfl | rfl | rfl | rfl | rfl | rfl | rfl | rfl | rfl | rfl | rfl | rfl | rfl | rfl | rfl | rfl | rfl | rfl | rfl | rfl <;> first | rfl | decide +kernel
  hpc := by intro q hq; simp only [List.zip_cons_cons, List.zip_nil_right, List.mem_cons, List.not_mem_nil, or_false] at hq; rcases hq with rfl <;> first | rfl | decide +kernel
  kind := rfl
  co := rfl
  gen := rfl
  glb := rfl
  blt := rfl
end Mine
end
section
open PySem PySem.W PySem.Calls PyProof.Rows PySem.Builtin.Str
set_option Elab.async false
set_option autoImplicit false
set_option linter.all false
set_option maxRecDepth 100000
namespace Mine
/-- an argument as given -/
inductive Gi where
  | e (i w : Nat) (sg : Bool)
  | non
  | txt (k : Tp)
noncomputable def Gi.pv : Gi → PV
  | .e i w sg => .tup [.str "e", .tup [.str "sig", .int w, .int i], .bool sg]
  | .non => .tup [.str "none"]
  | .txt k => .tup [.str "s", .str k.s]
noncomputable def scPV : PV := .tup [.str "scope", .str "top.u"]
noncomputable def gPV (l : List Gi) (sc : Bool) : List PV := l.map Gi.pv ++ if sc then [scPV] else []
noncomputable def Gi.tag : Gi → Str
  | .e _ _ _ => "e"
  | .non => "none"
  | .txt _ => "s"
theorem Gi.tag_pv (g : Gi) : ∃ r, g.pv = .tup (.str g.tag :: r) := by cases g <;> exact ⟨_, rfl⟩
theorem Gi.not_scope : ∀ g : Gi, (g.tag == "scope") = false
  | .e _ _ _ => (by decide : (("e" : Str) == "scope") = false)
  | .non => (by decide : (("none" : Str) == "scope") = false)
  | .txt _ => (by decide : (("s" : Str) == "scope") = false)
section
variable {P : Pg} {lv : Nat} {st : List Cell} {ja i j : Nat} {l : List Gi} {es : List (Str × PV)}
theorem plain_t (hj : st[ja]? = some (.list (gPV l true))) (hn : l.length ≤ 100) : Cl P tabs (lv + 1) (.ref 641) [.loc ja] st (.loc st.length) (st ++ [.list (l.map Gi.pv)]) := by
  refine cl_def ok_plain_args (k := 23) rfl rfl fun A L => ?_
  conv => arg 4; whnf
  have hl : (gPV l true).length = l.length + 1 := by simp [gPV]
  refine ex_if_t ((tst_and2 (tst_cmp (ev_bf 0 3 boot_len (evs_cons (ev_name 0) evs_nil) (cl_lenl hj)) ev_int c_gt) fun _ => tst_cmp (ev_sub (ev_sub (ev_name 0) (ev_neg ev_int) (i_listneg (p := scPV) hj (by decide) (by rw [hl]; omega) ?_)) ev_int (i_tup (by decide) (by decide) rfl)) ev_str c_eqs).cast (b' := true) ?_) ?_
  · rw [hl, show ((-1 : Int) + ((l.length + 1 : Nat) : Int)).toNat = l.length by omega]; simp [gPV]
  · have h1 : (("scope" : Str) == "scope") = true := by decide
    rw [hl, h1, Bool.and_true, decide_eq_true_eq]; omega
  refine ex_ret (ev_lslice (i := none) (k := some (-1)) (ys := l.map Gi.pv) (ev_name 0) trivial (show PartIs _ _ _ (some _) (some _) from ev_neg ev_int) hj fun ρ F vs h => ?_) ⟨rfl, rfl⟩
  have := pick_last vs h
  rw [hl, Nat.add_sub_cancel] at this
  simpa [gPV] using this
theorem plain_f (hj : st[ja]? = some (.list (gPV l false))) (hn : l.length ≤ 100) : Cl P tabs (lv + 1) (.ref 641) [.loc ja] st (.loc ja) st := by
  refine cl_def ok_plain_args (k := 23) rfl rfl fun A L => ?_
  conv => arg 4; whnf
  have hl : (gPV l false).length = l.length := by simp [gPV]
  rcases Nat.eq_zero_or_pos l.length with h0 | h0
  · refine ex_skip ((tst_and2 (y2 := true) (tst_cmp (ev_bf 0 3 boot_len (evs_cons (ev_name 0) evs_nil) (cl_lenl hj)) ev_int c_gt) fun h => ?_).cast (b' := false) ?_) (ex_ret (ev_name 0) ⟨rfl, rfl⟩)
    · rw [hl, h0] at h; cases h
    · rw [hl, h0]; rfl
  · have hlast := List.getElem?_eq_getElem (l := l) (i := l.length - 1) (by omega)
    obtain ⟨r, hr⟩ := (l[l.length - 1]'(by omega)).tag_pv
    refine ex_skip ((tst_and2 (tst_cmp (ev_bf 0 3 boot_len (evs_cons (ev_name 0) evs_nil) (cl_lenl hj)) ev_int c_gt) fun _ => tst_cmp (ev_sub (ev_sub (ev_name 0) (ev_neg ev_int) (i_listneg (p := .tup (.str (l[l.length - 1]'(by omega)).tag :: r)) hj (by decide) (by rw [hl]; omega) ?_)) ev_int (i_tup (by decide) (by decide) rfl)) ev_str c_eqs).cast (b' := false) ?_) (ex_ret (ev_name 0) ⟨rfl, rfl⟩)
    · rw [hl, show ((-1 : Int) + (l.length : Nat)).toNat = l.length - 1 by omega]
      simp only [gPV, Bool.false_eq_true, if_false, List.append_nil, List.getElem?_map, hlast, Option.map_some, hr]
    · rw [Gi.not_scope, Bool.and_false]
theorem path_t {t : PV} (hj : st[ja]? = some (.list (gPV l true))) (hn : l.length ≤ 100) : Cl P tabs (lv + 1) (.ref 648) [.loc ja, t] st (.str "top.u") st := by
  refine cl_def ok_shown_path (k := 24) rfl rfl fun A L => ?_
  conv => arg 4; whnf
  have hl : (gPV l true).length = l.length + 1 := by simp [gPV]
  have hx : (gPV l true)[((-1 : Int) + ((gPV l true).length : Nat)).toNat]? = some scPV := by
    rw [hl, show ((-1 : Int) + ((l.length + 1 : Nat) : Int)).toNat = l.length by omega]; simp [gPV]
  refine ex_if_t ((tst_and2 (tst_cmp (ev_bf 0 3 boot_len (evs_cons (ev_name 0) evs_nil) (cl_lenl hj)) ev_int c_gt) fun _ => tst_cmp (ev_sub (ev_sub (ev_name 0) (ev_neg ev_int) (i_listneg (p := scPV) hj (by decide) (by rw [hl]; omega) hx)) ev_int (i_tup (by decide) (by decide) rfl)) ev_str c_eqs).cast (b' := true) ?_) ?_
  · have h1 : (("scope" : Str) == "scope") = true := by decide
    rw [hl, h1, Bool.and_true, decide_eq_true_eq]; omega
  exact ex_ret (ev_sub (ev_sub (ev_name 0) (ev_neg ev_int) (i_listneg (p := scPV) hj (by decide) (by rw [hl]; omega) hx)) ev_int (i_tup (by decide) (by decide) rfl)) ⟨rfl, rfl⟩
theorem path_f {p : Str} (hj : st[ja]? = some (.list (gPV l false))) (hn : l.length ≤ 100) (hi : st[i]? = some (.inst thr j)) (hd : st[j]? = some (.dict es)) (hg : dfind "path" es = some (.str p)) : Cl P tabs (lv + 1) (.ref 648) [.loc ja, .loc i] st (.str p) st := by
  refine cl_def ok_shown_path (k := 24) rfl rfl fun A L => ?_
  conv => arg 4; whnf
  have hl : (gPV l false).length = l.length := by simp [gPV]
  have last : ∀ A L, Ex (mkCx P tabs A fd_shown_path L 648 ["args", "thread"] ["len"] lv) [some (.loc ja), some (.loc i)] st (match (bodyOf 97)[1]? with | some b => [b] | none => []) (RetIs (.str p) st) := fun A L => by
    conv => arg 4; whnf
    exact ex_ret (ev_attr (ev_name 1) hi hd hg (fun v e => by cases e)) ⟨rfl, rfl⟩
  rcases Nat.eq_zero_or_pos l.length with h0 | h0
  · refine ex_skip ((tst_and2 (y2 := true) (tst_cmp (ev_bf 0 3 boot_len (evs_cons (ev_name 0) evs_nil) (cl_lenl hj)) ev_int c_gt) fun h => ?_).cast (b' := false) ?_) (last A L)
    · rw [hl, h0] at h; cases h
    · rw [hl, h0]; rfl
  · have hlast := List.getElem?_eq_getElem (l := l) (i := l.length - 1) (by omega)
    obtain ⟨r, hr⟩ := (l[l.length - 1]'(by omega)).tag_pv
    refine ex_skip ((tst_and2 (tst_cmp (ev_bf 0 3 boot_len (evs_cons (ev_name 0) evs_nil) (cl_lenl hj)) ev_int c_gt) fun _ => tst_cmp (ev_sub (ev_sub (ev_name 0) (ev_neg ev_int) (i_listneg (p := .tup (.str (l[l.length - 1]'(by omega)).tag :: r)) hj (by decide) (by rw [hl]; omega) ?_)) ev_int (i_tup (by decide) (by decide) rfl)) ev_str c_eqs).cast (b' := false) ?_) (last A L)
    · rw [hl, show ((-1 : Int) + (l.length : Nat)).toNat = l.length - 1 by omega]
      simp only [gPV, Bool.false_eq_true, if_false, List.append_nil, List.getElem?_map, hlast, Option.map_some, hr]
    · rw [Gi.not_scope, Bool.and_false]
end
end Mine
end
section
open PySem PySem.W PySem.Calls PyProof.Rows PySem.Builtin.Str
set_option Elab.async false
set_option autoImplicit false
set_option linter.all false
set_option maxRecDepth 100000
namespace Mine
/-! the closures of _law_kernel -/
noncomputable def defP (k : Nat) : Arguments := match (bodyOf 110)[k]? with
  | some (.FunctionDef _ p _ _ _ _ _ _ _ _) => p
  | _ => default
noncomputable def defB (k : Nat) : List Stmt := match (bodyOf 110)[k]? with
  | some (.FunctionDef _ _ b _ _ _ _ _ _ _) => b
  | _ => []
noncomputable def defS (k : Nat) : Scope := match (bodyOf 110)[k]? with
  | some (.FunctionDef _ _ _ _ _ _ s _ _ _) => s
  | _ => default
noncomputable abbrev closOK (k : Nat) (name qual : Str) (ps keys gkeys : List Str) : Prop := ∀ clos doc pm c' ctv, FnOK (fnX name qual (defP k) (defB k) (defS k) clos .none .none doc pm none (.ref c') ctv) ps keys gkeys (defB k)
theorem ok_get : closOK 7 "_law_get" "_law_kernel.<locals>._law_get" ["key"] ["key"] [] := fun clos doc pm c' ctv =>
  { body := rfl, bind := fun rs h => by match rs, h with | [_], _ => rfl
    cell := (by decide +kernel : ∀ x ∈ (defS 7).names, x.2 ≠ .cell)
    par := ⟨[], rfl⟩
    locs := (by decide +kernel : ∀ x ∈ (["key"] : List Str), (defS 7).names.lookup x = some .local)
    globs := fun _ h => nomatch h
    nd := by decide +kernel
    kind := rfl, co := rfl, gen := rfl, glb := rfl, blt := rfl }
theorem ok_context : closOK 8 "_law_context" "_law_kernel.<locals>._law_context" ["thread"] ["thread", "ctx"] ["Thread", "len"] := fun clos doc pm c' ctv =>
  { body := rfl, bind := fun rs h => by match rs, h with | [_], _ => rfl
    cell := (by decide +kernel : ∀ x ∈ (defS 8).names, x.2 ≠ .cell)
    par := ⟨["ctx"], rfl⟩
    locs := (by decide +kernel : ∀ x ∈ (["thread", "ctx"] : List Str), (defS 8).names.lookup x = some .local)
    globs := (by decide +kernel : ∀ x ∈ (["Thread", "len"] : List Str), (defS 8).names.lookup x = some .globalImplicit)
    nd := by decide +kernel
    kind := rfl, co := rfl, gen := rfl, glb := rfl, blt := rfl }
theorem ok_back : closOK 9 "_law_back" "_law_kernel.<locals>._law_back" ["ctx"] ["ctx"] [] := fun clos doc pm c' ctv =>
  { body := rfl, bind := fun rs h => by match rs, h with | [_], _ => rfl
    cell := (by decide +kernel : ∀ x ∈ (defS 9).names, x.2 ≠ .cell)
    par := ⟨[], rfl⟩
    locs := (by decide +kernel : ∀ x ∈ (["ctx"] : List Str), (defS 9).names.lookup x = some .local)
    globs := fun _ h => nomatch h
    nd := by decide +kernel
    kind := rfl, co := rfl, gen := rfl, glb := rfl, blt := rfl }
theorem ok_late : closOK 10 "_law_late" "_law_kernel.<locals>._law_late" ["region", "event"] ["region", "event"] [] := fun clos doc pm c' ctv =>
  { body := rfl, bind := fun rs h => by match rs, h with | [_, _], _ => rfl
    cell := (by decide +kernel : ∀ x ∈ (defS 10).names, x.2 ≠ .cell)
    par := ⟨[], rfl⟩
    locs := (by decide +kernel : ∀ x ∈ (["region", "event"] : List Str), (defS 10).names.lookup x = some .local)
    globs := fun _ h => nomatch h
    nd := by decide +kernel
    kind := rfl, co := rfl, gen := rfl, glb := rfl, blt := rfl }
theorem ok_monitor : closOK 11 "_law_monitor" "_law_kernel.<locals>._law_monitor" ["name", "given", "thread"] ["name", "given", "thread"] [] := fun clos doc pm c' ctv =>
  { body := rfl, bind := fun rs h => by match rs, h with | [_, _, _], _ => rfl
    cell := (by decide +kernel : ∀ x ∈ (defS 11).names, x.2 ≠ .cell)
    par := ⟨[], rfl⟩
    locs := (by decide +kernel : ∀ x ∈ (["name", "given", "thread"] : List Str), (defS 11).names.lookup x = some .local)
    globs := fun _ h => nomatch h
    nd := by decide +kernel
    kind := rfl, co := rfl, gen := rfl, glb := rfl, blt := rfl }
section
variable {P : Pg} {lv : Nat} {st : List Cell} {i ic cw cn lw ln k : Nat} {ws ns : List Nat}
theorem get_cl (hi : st[i]? = some (.fn "_law_get" "_law_kernel.<locals>._law_get" (defP 7) (defB 7) (defS 7) [("wides", cw), ("numbers", cn)] ic)) (hic : st[ic]? = some (.code "_law_kernel.<locals>._law_get"))
    (hcw : st[cw]? = some (.cell (some (.loc lw)))) (hcn : st[cn]? = some (.cell (some (.loc ln)))) (hw : st[lw]? = some (.list (ws.map fun (w : Nat) => .int w))) (hn : st[ln]? = some (.list (ns.map fun (w : Nat) => .int w)))
    {w a : Nat} (hwk : ws[k]? = some w) (hnk : ns[k]? = some a) : ClL P tabs (lv + 1) i [.int k] st (vec w a) st := by
  refine cl_clos hi hic ok_get (by intro q hq; simp only [List.mem_cons, List.not_mem_nil, or_false] at hq; rcases hq with rfl | rfl <;> rfl) (by show (["wides", "numbers"] : List Str).Nodup; decide +kernel) rfl fun A L f clos doc pm c' ctv => ?_
  conv => arg 4; whnf
  refine ex_ret (ev_tuple (evs_cons (ev_sub (ev_cname 0 rfl hcw) (ev_name 0) (i_list (p := .int w) hw (Int.natCast_nonneg _) ?_)) (evs_cons (ev_sub (ev_cname 1 rfl hcn) (ev_name 0) (i_list (p := .int a) hn (Int.natCast_nonneg _) ?_)) (evs_cons ev_int evs_nil))) (Nat.le_of_ble_eq_true rfl)) ⟨rfl, rfl⟩
  · rw [Int.toNat_natCast, List.getElem?_map, hwk]; rfl
  · rw [Int.toNat_natCast, List.getElem?_map, hnk]; rfl
end
end Mine
end
section
open PySem PySem.W PySem.Calls PyProof.Rows PySem.Builtin.Str
set_option Elab.async false
set_option autoImplicit false
set_option linter.all false
set_option maxRecDepth 100000
namespace Mine
/-- _law_get stands at i -/
structure GetAt (st : List Cell) (i : Nat) (ws ns : List Nat) : Prop where
  ex : ∃ ic cw cn lw ln, st[i]? = some (.fn "_law_get" "_law_kernel.<locals>._law_get" (defP 7) (defB 7) (defS 7) [("wides", cw), ("numbers", cn)] ic) ∧ st[ic]? = some (.code "_law_kernel.<locals>._law_get") ∧
    st[cw]? = some (.cell (some (.loc lw))) ∧ st[cn]? = some (.cell (some (.loc ln))) ∧ st[lw]? = some (.list (ws.map fun (w : Nat) => .int w)) ∧ st[ln]? = some (.list (ns.map fun (w : Nat) => .int w))
theorem GetAt.grow {st g : List Cell} {i : Nat} {ws ns : List Nat} (h : GetAt st i ws ns) : GetAt (st ++ g) i ws ns := by
  obtain ⟨ic, cw, cn, lw, ln, h1, h2, h3, h4, h5, h6⟩ := h.ex
  exact ⟨ic, cw, cn, lw, ln, gL h1, gL h2, gL h3, gL h4, gL h5, gL h6⟩
section
variable {P : Pg} {lv : Nat} {st : List Cell} {i j i2 j2 ig k : Nat} {ws ns : List Nat} {es es2 : List (Str × PV)}
theorem evaluate_cl (hi : st[i]? = some (.inst thr j)) (hj : st[j]? = some (.dict es)) (hs : dfind "store" es = some (.loc i2)) (hi2 : st[i2]? = some (.inst thr j2)) (hj2 : st[j2]? = some (.dict es2)) (hg : dfind "get" es2 = some (.loc ig)) (G : GetAt st ig ws ns)
    {w a w' : Nat} (hwk : ws[k]? = some w) (hnk : ns[k]? = some a) : Cl P tabs (lv + 2) (.ref 487) [.tup [.str "sig", .int w', .int k], .loc i] st (vec w a) st := by
  refine clc_drop' ok_evaluate (k := 28) rfl rfl (.tup (.cons (.int _) (.cons (.int _) (.cons (.int _) .nil)))) fun A L => ?_
  conv => arg 4; whnf
  refine ex_assign 1 (ev_sub (ev_name 0) ev_int (i_tup (by decide) (by decide) rfl)) ?_
  refine ex_skip ((tst_cmp (ev_name 1) ev_str c_eqs).cast (by decide)) ?_
  refine ex_if_t ((tst_cmp (ev_name 1) ev_str c_eqs).cast (by decide)) ?_
  obtain ⟨ic, cw, cn, lw, ln, h1, h2, h3, h4, h5, h6⟩ := (G.grow (g := [.cell (some (.loc i))])).ex
  refine ex_ret (ev_methown (ev_attr (ev_cname 0 rfl gA) (gL hi) (gL hj) hs (fun v e => by cases e)) (gL hi2) (gL hj2) hg (evs_cons (ev_sub (ev_name 0) ev_int (i_tup (by decide) (by decide) rfl)) evs_nil) h1 (get_cl (lv := lv) h1 h2 h3 h4 h5 h6 hwk hnk) (Nat.le_refl _) h1) ⟨[.cell (some (.loc i))], rfl, rfl⟩
end
end Mine
end
section
open PySem PySem.W PySem.Calls PyProof.Rows PySem.Builtin.Str
set_option Elab.async false
set_option autoImplicit false
set_option linter.all false
set_option maxRecDepth 100000
namespace Mine
section
variable {P : Pg} {lv : Nat} {st : List Cell} {i ic ck cg ik jk il it jt ig : Nat} {ws ns : List Nat} {esk est : List (Str × PV)} {ls : List PV} {p : Str}
/-- _law_back -/
theorem back_cl {ib jb : Nat} {esc : List (Str × PV)} {c : PV} {ic2 jc2 : Nat} (hi : st[i]? = some (.fn "_law_back" "_law_kernel.<locals>._law_back" (defP 9) (defB 9) (defS 9) [("kernel", ck)] ic)) (hic : st[ic]? = some (.code "_law_kernel.<locals>._law_back"))
    (hck : st[ck]? = some (.cell (some (.loc ik)))) (hik : st[ik]? = some (.inst thr jk)) (hjk : st[jk]? = some (.dict esk)) (hl : dfind "back" esk = some (.loc il)) (hil : st[il]? = some (.list ls)) (hz : ls.length < 1000)
    (hc : st[ic2]? = some (.inst thr jc2)) (hjc : st[jc2]? = some (.dict esc)) (hn : dfind "number" esc = some c) (hcv : NotVal c) : ClL P tabs (lv + 1) i [.loc ic2] st .none (st.set il (.list (ls ++ [c]))) := by
  refine cl_clos hi hic ok_back (by intro q hq; simp only [List.mem_cons, List.not_mem_nil, or_false] at hq; rcases hq with rfl; rfl) (by show (["kernel"] : List Str).Nodup; decide +kernel) rfl fun A L f clos doc pm c' ctv => ?_
  conv => arg 4; whnf
  refine ex_expr (ev_append (ev_attr (ev_cname 0 rfl hck) hik hjk hl (fun v e => by cases e)) (ev_attr (ev_name 0) hc hjc hn hcv) hil hz ⟨_, hil⟩) (ex_nil ⟨rfl, rfl⟩)
/-- _law_late -/
theorem late_cl {r e : PV} (hi : st[i]? = some (.fn "_law_late" "_law_kernel.<locals>._law_late" (defP 10) (defB 10) (defS 10) [("kernel", ck)] ic)) (hic : st[ic]? = some (.code "_law_kernel.<locals>._law_late"))
    (hck : st[ck]? = some (.cell (some (.loc ik)))) (hik : st[ik]? = some (.inst thr jk)) (hjk : st[jk]? = some (.dict esk)) (hl : dfind "events" esk = some (.loc il)) (hil : st[il]? = some (.list ls)) (hz : ls.length < 1000) :
    ClL P tabs (lv + 1) i [r, e] st .none (st.set il (.list (ls ++ [.tup [r, e]]))) := by
  refine cl_clos hi hic ok_late (by intro q hq; simp only [List.mem_cons, List.not_mem_nil, or_false] at hq; rcases hq with rfl; rfl) (by show (["kernel"] : List Str).Nodup; decide +kernel) rfl fun A L f clos doc pm c' ctv => ?_
  conv => arg 4; whnf
  refine ex_expr (ev_append (ev_attr (ev_cname 0 rfl hck) hik hjk hl (fun v e => by cases e)) (ev_tuple (evs_cons (ev_name 0) (evs_cons (ev_name 1) evs_nil)) (Nat.le_of_ble_eq_true rfl)) hil hz ⟨_, hil⟩) (ex_nil ⟨rfl, rfl⟩)
/-- _law_monitor -/
theorem monitor_cl {nm gv c : PV} (hi : st[i]? = some (.fn "_law_monitor" "_law_kernel.<locals>._law_monitor" (defP 11) (defB 11) (defS 11) [("kernel", ck)] ic)) (hic : st[ic]? = some (.code "_law_kernel.<locals>._law_monitor"))
    (hck : st[ck]? = some (.cell (some (.loc ik)))) (hik : st[ik]? = some (.inst thr jk)) (hjk : st[jk]? = some (.dict esk)) (hl : dfind "monitors" esk = some (.loc il)) (hil : st[il]? = some (.list ls)) (hz : ls.length < 1000)
    (hit : st[it]? = some (.inst thr jt)) (hjt : st[jt]? = some (.dict est)) (hn : dfind "number" est = some c) (hcv : NotVal c) :
    ClL P tabs (lv + 1) i [nm, gv, .loc it] st .none (st.set il (.list (ls ++ [.tup [nm, gv, c]]))) := by
  refine cl_clos hi hic ok_monitor (by intro q hq; simp only [List.mem_cons, List.not_mem_nil, or_false] at hq; rcases hq with rfl; rfl) (by show (["kernel"] : List Str).Nodup; decide +kernel) rfl fun A L f clos doc pm c' ctv => ?_
  conv => arg 4; whnf
  refine ex_expr (ev_append (ev_attr (ev_cname 0 rfl hck) hik hjk hl (fun v e => by cases e)) (ev_tuple (evs_cons (ev_name 0) (evs_cons (ev_name 1) (evs_cons (ev_attr (ev_name 2) hit hjt hn hcv) evs_nil))) (Nat.le_of_ble_eq_true rfl)) hil hz ⟨_, hil⟩) (ex_nil ⟨rfl, rfl⟩)
end
end Mine
end
section
open PySem PySem.W PySem.Calls PyProof.Rows PySem.Builtin.Str
set_option Elab.async false
set_option autoImplicit false
set_option linter.all false
set_option maxRecDepth 100000
namespace Mine
noncomputable def ctxCells (n : Nat) (num path : PV) (ig : Nat) : List Cell :=
  [.list [], .list [], .dict (thrE num (.loc n) (.int 0) (.loc (n + 1)) path (n + 2) ++ [(("store" : Str), PV.loc (n + 10))]), .inst thr (n + 2), .list [], .list [], .dict [],
   .list [], .list [], .dict (thrE (.int 2) (.loc (n + 7)) (.int 0) (.loc (n + 8)) (.str "top") (n + 9) ++ [(("get" : Str), PV.loc ig)]), .inst thr (n + 9), .list [], .list [], .dict []]
theorem appL {a b c : List Cell} : a ++ b ++ c = a ++ (b ++ c) := List.append_assoc a b c
theorem gK {st g : List Cell} (k : Nat) {c : Cell} (h : g[k]? = some c) : (st ++ g)[st.length + k]? = some c := by
  rw [List.getElem?_append_right (by omega), show st.length + k - st.length = k by omega]; exact h
theorem setK {st g : List Cell} (k : Nat) {c : Cell} : (st ++ g).set (st.length + k) c = st ++ g.set k c := by
  rw [List.set_append_right _ _ (by omega), show st.length + k - st.length = k by omega]
section
variable {P : Pg} {lv : Nat} {st : List Cell} {i ic ck cg ik jk il it jt ig : Nat} {esk est : List (Str × PV)} {ls : List PV} {p : Str}
theorem context_cl (hi : st[i]? = some (.fn "_law_context" "_law_kernel.<locals>._law_context" (defP 8) (defB 8) (defS 8) [("kernel", ck), ("_law_get", cg)] ic)) (hic : st[ic]? = some (.code "_law_kernel.<locals>._law_context"))
    (hck : st[ck]? = some (.cell (some (.loc ik)))) (hcg : st[cg]? = some (.cell (some (.loc ig)))) (hik : st[ik]? = some (.inst thr jk)) (hjk : st[jk]? = some (.dict esk)) (hl : dfind "lent" esk = some (.loc il)) (hil : st[il]? = some (.list ls)) (hz : ls.length < 1000)
    (hit : st[it]? = some (.inst thr jt)) (hjt : st[jt]? = some (.dict est)) (hp : dfind "path" est = some (.str p)) :
    ClL P tabs (lv + 3) i [.loc it] st (.loc (st.length + 3)) (st.set il (.list (ls ++ [.int (ls.length : Nat)])) ++ ctxCells st.length (.int (ls.length : Nat)) (.str p) ig) := by
  refine cl_clos hi hic ok_context (by intro q hq; simp only [List.mem_cons, List.not_mem_nil, or_false] at hq; rcases hq with rfl | rfl <;> rfl) (by show (["kernel", "_law_get"] : List Str).Nodup; decide +kernel) rfl fun A L f clos doc pm c' ctv => ?_
  conv => arg 4; whnf
  have e1 : (st ++ [Cell.list []]).length = st.length + 1 := by simp
  have e2 : (st ++ [Cell.list []] ++ [Cell.list []]).length = st.length + 2 := by simp
  refine ex_assign 1 (ev_new (lv := lv + 1) (vs := [.int (ls.length : Nat), .loc st.length, .int 0, .loc (st.length + 1), .str p]) (ev_glob 0 37) (evs_cons (ev_bf 1 3 boot_len (evs_cons (ev_attr (ev_cname 0 rfl hck) hik hjk hl (fun v e => by cases e)) evs_nil) (cl_lenl hil))
    (evs_cons (ev_list evs_nil (by decide)) (evs_cons ev_int (evs_cons (e1 ▸ ev_list evs_nil (by decide)) (evs_cons (ev_attr (ev_name 0) (gL (gL hit)) (gL (gL hjt)) hp (fun v e => by cases e)) evs_nil))))) init_cd (by show lv + 2 ≤ lv + 2; omega)) ?_
  rw [e2]
  have e3 : st ++ [Cell.list []] ++ [Cell.list []] ++ [Cell.dict (thrE (.int (ls.length : Nat)) (.loc st.length) (.int 0) (.loc (st.length + 1)) (.str p) (st.length + 2)), .inst thr (st.length + 2), .list [], .list [], .dict []] =
    st ++ [.list [], .list [], .dict (thrE (.int (ls.length : Nat)) (.loc st.length) (.int 0) (.loc (st.length + 1)) (.str p) (st.length + 2)), .inst thr (st.length + 2), .list [], .list [], .dict []] := by simp
  rw [e3]
  generalize hg1 : [Cell.list [], .list [], .dict (thrE (.int (ls.length : Nat)) (.loc st.length) (.int 0) (.loc (st.length + 1)) (.str p) (st.length + 2)), .inst thr (st.length + 2), .list [], .list [], .dict []] = g1
  have l1 : (st ++ g1).length = st.length + 7 := by rw [← hg1]; simp
  have l2 : (st ++ g1 ++ [Cell.list []]).length = st.length + 8 := by rw [List.length_append, l1]; rfl
  have l3 : (st ++ g1 ++ [Cell.list []] ++ [Cell.list []]).length = st.length + 9 := by rw [List.length_append, l2]; rfl
  refine ex_setnew (i := st.length + 3) (j := st.length + 2) (es := thrE (.int (ls.length : Nat)) (.loc st.length) (.int 0) (.loc (st.length + 1)) (.str p) (st.length + 2)) (ev_new (lv := lv + 1) (vs := [.int 2, .loc (st.length + 7), .int 0, .loc (st.length + 8), .str "top"]) (ev_glob 0 37) (evs_cons ev_int
    (evs_cons (l1 ▸ ev_list evs_nil (by decide)) (evs_cons ev_int (evs_cons (l2 ▸ ev_list evs_nil (by decide)) (evs_cons ev_str evs_nil))))) init_cd (by show lv + 2 ≤ lv + 2; omega)) (ev_name 1) ?_ ?_ ?_
  · rw [appL, appL, appL, ← hg1]; exact gK 3 rfl
  · rw [appL, appL, appL, ← hg1]; exact gK 2 rfl
  rw [l3, appL, appL, appL, setK 2]
  have e4 : (g1 ++ ([Cell.list []] ++ ([Cell.list []] ++ [Cell.dict (thrE (.int 2) (.loc (st.length + 7)) (.int 0) (.loc (st.length + 8)) (.str "top") (st.length + 9)), .inst thr (st.length + 9), .list [], .list [], .dict []]))).set 2 (.dict (thrE (.int (ls.length : Nat)) (.loc st.length) (.int 0) (.loc (st.length + 1)) (.str p) (st.length + 2) ++ [(("store" : Str), PV.loc (st.length + 9 + 1))])) =
    [.list [], .list [], .dict (thrE (.int (ls.length : Nat)) (.loc st.length) (.int 0) (.loc (st.length + 1)) (.str p) (st.length + 2) ++ [(("store" : Str), PV.loc (st.length + 10))]), .inst thr (st.length + 2), .list [], .list [], .dict [],
     .list [], .list [], .dict (thrE (.int 2) (.loc (st.length + 7)) (.int 0) (.loc (st.length + 8)) (.str "top") (st.length + 9)), .inst thr (st.length + 9), .list [], .list [], .dict []] := by rw [← hg1]; rfl
  rw [e4]
  refine ex_setnew (i := st.length + 10) (j := st.length + 9) (es := thrE (.int 2) (.loc (st.length + 7)) (.int 0) (.loc (st.length + 8)) (.str "top") (st.length + 9)) (ev_cname 1 rfl (gL hcg)) (ev_attr (i := st.length + 3) (j := st.length + 2) (ev_name 1) (gK 3 rfl) (gK 2 rfl) rfl (fun v e => by cases e)) (gK 10 rfl) (gK 9 rfl) ?_
  rw [setK 9]
  refine ex_expr (ev_append (ev_attr (ev_cname 0 rfl (gL hck)) (gL hik) (gL hjk) hl (fun v e => by cases e)) (ev_attr (i := st.length + 3) (j := st.length + 2) (ev_name 1) (gK 3 rfl) (gK 2 rfl) rfl (fun v e => by cases e)) (gL hil) hz ⟨_, gL hil⟩) ?_
  refine ex_ret (ev_name 1) ⟨rfl, ?_⟩
  rw [List.set_append_left _ _ (lt_of_get hil)]; rfl
end
end Mine
end
section
open PySem PySem.W PySem.Calls PyProof.Rows PySem.Builtin.Str
set_option Elab.async false
set_option autoImplicit false
set_option linter.all false
set_option maxRecDepth 100000
namespace Mine
/-- for over a list that stands in the store at j, from its k-th item on -/
noncomputable def FoL (C : Cx) (lo : List (Option PV)) (st : List Cell) (x : Str) (px : Pos) (body : List Stmt) (j k : Nat) (K : Out → Prop) : Prop :=
  ∀ (s : Shared) (ρ : List Addr) (F : Frz) (I ax : Addr), Sim C lo st ρ F s.heap → ρ[j]? = some ax → F I = none → I ∉ ρ → I ≠ C.env.locals → s.heap.IsListIter I ax k →
    ∀ R : Result → Shared → Prop, (∀ o, K o → ∀ f h' tk ρ' F', OutSim C ρ' F' h' f o → ρ <+: ρ' → FLe F F' → R (.ok f) (Rest s h' tk)) →
    codeAny (model C.P.prog C.P.w) C.A (.forLoop (.Name x px) (.ref I) body [] C.env) R s
theorem iter_not {h : Heap} {I ax : Addr} {k : Nat} (e : h.IsListIter I ax k) : ∃ o, h.get? I = some o ∧ NotData o := by
  obtain ⟨o, ho, hc, hd⟩ := e
  exact ⟨o, ho, notData_of hc (by decide)⟩
section
variable {C : Cx} {lo : List (Option PV)} {st st1 st2 st3 : List Cell} {pos : Pos} {a b c r p : PV} {K : Out → Prop} {rest : List Stmt} {x : Str} {px : Pos} {body : List Stmt} {items xs : List PV} {j k : Nat}
theorem fol_nil (hj : st[j]? = some (.list xs)) (hk : xs.length ≤ k) (hK : K (.next lo st)) : FoL C lo st x px body j k K := by
  intro s ρ F I ax S hax hFI hI hL hit R hR
  obtain ⟨vs, n, hv, hr, hz⟩ := S.s.list hax hj
  have e : vs.size = xs.length := by rw [← hr.length, Array.length_toList]
  refine codeAny_forLoop (fun _ s' => s' = s) ?_ 0 rfl
  rintro _ s' rfl
  refine wpAny_pyNext_list_end S.good.hd hit ⟨_, hv, rfl, n, rfl⟩ (Array.getElem?_eq_none (by omega)) fun h1 he' => ?_
  exact wpAny_execs_nil (hR (.next lo st) hK _ h1 _ ρ F ⟨rfl, S.keep (keep_off hFI hI hL fun b o hb e => he' b o (fun h => hb (by simp [h])) e)⟩ (List.prefix_refl _) (FLe.refl _))
theorem fol_step (i : Nat) (hx : C.keys[i]? = some x) (hj : st[j]? = some (.list xs)) (hk : xs[k]? = some p)
    (h1 : Ex C (lo.set i (some p)) st body (fun o => match o with | .next lo' st' => FoL C lo' st' x px body j (k + 1) K | .cont lo' st' => FoL C lo' st' x px body j (k + 1) K | .brk lo' st' => K (.next lo' st') | .ret r s => K (.ret r s))) :
    FoL C lo st x px body j k K := by
  intro s ρ F I ax S hax hFI hI hL hit R hR
  have hg : C.P.h0.get? I = none := S.h0_none hFI
  obtain ⟨vs, n, hv, hr, hz⟩ := S.s.list hax hj
  obtain ⟨v, ev, rv⟩ := hr.get hk
  rw [Array.getElem?_toList] at ev
  refine codeAny_of_tree ?_
  show wpAny _ _ ((forTurn (.Name x px) (.ref I) body [] C.env).onRaise (fun x => do noteFrame x C.env; theTreesLotGoes x)) _ _ s
  refine wpAny_noted ?_
  simp only [forTurn]
  refine wpAny_bind (wpAny_standAt (wpAny_bind (wpAny_onRaise ?_)))
  refine wpAny_pyNext_list_item hit ⟨_, hv, rfl, n, rfl⟩ ev fun h2 hit2 hs2 => ?_
  refine wpAny_bind (wpAny_of_eq (show letOwnedTupleGo (.Name x px) (.ref I) v = pure () from rfl) ?_)
  have S2 : Sim C lo st ρ F h2 := S.keep (keep_off hFI hI hL fun b o hb e => hs2.extBut b o (fun h => hb (by simp [h])) e)
  obtain ⟨o2, ho2, hd2⟩ := iter_not hit2
  have Sf := S2.freeze hFI hI hL ho2
  have le := addF_le (o := o2) hFI
  refine wpAny_bind (wpAny_assign_Name (Sf.storeName hx (rv.mono (List.prefix_refl _) le) fun h3 tk3 S3 => ?_))
  refine wpAny_bind (wpAny_noE (h1.run _ ρ _ S3 _ fun o ko f h4 tk4 ρ4 F4 os p4 g4 => ?_))
  have hI4 : F4 I = some o2 := g4 _ _ addF_self
  have leD : FLe F (delF F4 I) := delF_le hFI (le.trans g4)
  have os' := os.thaw hI4 hd2 hg
  have next : ∀ lo' st', Sim C lo' st' ρ4 (delF F4 I) h4 → h4.get? I = some o2 → I ∉ ρ4 → FoL C lo' st' x px body j (k + 1) K →
      codeAny (model C.P.prog C.P.w) C.A (.forLoop (.Name x px) (.ref I) body [] C.env) R (Rest s h4 tk4) := by
    intro lo' st' S4 hgI hI' hFo
    refine hFo _ ρ4 (delF F4 I) I ax S4 (pre_get p4 hax) (by unfold delF; rw [if_pos rfl]) hI' hL ?_ R fun o ko f h5 tk5 ρ5 F5 os5 p5 g5 => hR o ko f h5 tk5 ρ5 F5 os5 (p4.trans p5) (leD.trans g5)
    obtain ⟨o', ho', hc', hd'⟩ := hit2
    rw [ho2] at ho'; cases ho'
    exact ⟨o2, hgI, hc', hd'⟩
  cases o with
  | next lo' st' => obtain ⟨rfl, S4⟩ := os'; exact wpAny_pure ⟨rfl, next lo' st' S4 (os.2.s.fin _ _ hI4) (fun q => by have := os.2.s.off _ q; rw [hI4] at this; cases this) ko⟩
  | cont lo' st' => obtain ⟨rfl, S4⟩ := os'; exact wpAny_pure ⟨rfl, next lo' st' S4 (os.2.s.fin _ _ hI4) (fun q => by have := os.2.s.off _ q; rw [hI4] at this; cases this) ko⟩
  | brk lo' st' => obtain ⟨rfl, S4⟩ := os'; exact wpAny_pure (hR (.next lo' st') ko _ h4 tk4 ρ4 _ ⟨rfl, S4⟩ p4 leD)
  | ret r s' => obtain ⟨v, rfl, S4⟩ := os'; exact wpAny_pure (hR (.ret r s') ko _ h4 tk4 ρ4 _ ⟨v, rfl, S4⟩ p4 leD)
theorem ex_forl {iter : Expr} (hi : Ev C lo st iter (.loc j) st1) (hj : st1[j]? = some (.list xs)) (h : FoL C lo st1 x px body j 0 (seqK C rest K)) (hs : ∀ x, foldedSetIterable iter C.env x = pure x := by intro _; rfl) :
    Ex C lo st (.For (.Name x px) iter body [] pos :: rest) K := by
  refine ex_cons fun s ρ F S Q hQ => wpAny_For (hi.run s ρ F S _ fun v h1 t1 ρ1 F1 r1 S1 p1 f1 => ?_) hs
  obtain ⟨ax, rfl, hax⟩ := r1.toLoc
  obtain ⟨vs, n, hv, hr, hz⟩ := S1.s.list hax hj
  refine wpAny_pyIter_list ⟨_, hv, rfl, n, rfl⟩ ?_
  have fr := S1.fresh (get_size (h := h1))
  have S2 := S1.grow fun b o e => Heap.get?_push_of_some { cls := .type "list_iterator", data := .fields #[.ref ax, .int 0 0] } e
  exact h (Rest s _ t1) ρ1 F1 _ ax S2 hax fr.1 fr.2.1 fr.2.2 ⟨_, Heap.get?_push_size _ rfl, rfl, rfl⟩ _ fun o ko f h2 tk2 ρ2 F2 os p2 g2 => hQ o ko f h2 tk2 ρ2 F2 os (p1.trans p2) (f1.trans g2)
end
end Mine
end
section
open PySem PySem.W PySem.Calls PyProof.Rows PySem.Builtin.Str
set_option Elab.async false
set_option autoImplicit false
set_option linter.all false
set_option maxRecDepth 100000
namespace Mine
/-- a list comprehension's loop over a list that stands in the store at j -/
noncomputable def CpL (C : Cx) (lo : List (Option PV)) (st : List Cell) (x : Str) (px : Pos) (elt iter : Expr) (scope : Scope) (pos : Pos) (m : Nat) (j k : Nat) (stB : List Cell) : Prop :=
  ∀ (s : Shared) (ρ : List Addr) (F : Frz) (I ax : Addr) (aa : Addr), Sim C lo st ρ F s.heap → ρ[j]? = some ax → F I = none → I ∉ ρ → I ≠ C.env.locals → s.heap.IsListIter I ax k → ρ[m]? = some aa →
    ∀ R : Result → Shared → Prop, (∀ lo' h' tk ρ' F', Sim C lo' stB ρ' F' h' → ρ <+: ρ' → FLe F F' → R (.ok .next) (Rest s h' tk)) →
    codeAny (model C.P.prog C.P.w) C.A (.compLoop (.ListComp elt [⟨.Name x px, iter, [], 0⟩] scope pos) 0 (.ref I) (.ref aa) C.env) R s
section
variable {C : Cx} {lo : List (Option PV)} {st st1 st2 st3 stB : List Cell} {pos : Pos} {a b c r p : PV} {K : Out → Prop} {rest : List Stmt} {x : Str} {px : Pos} {elt iter : Expr} {scope : Scope} {items xs ys vs : List PV} {i j k m lv : Nat}
theorem cpl_nil (hj : st[j]? = some (.list xs)) (hk : xs.length ≤ k) : CpL C lo st x px elt iter scope pos m j k st := by
  intro s ρ F I ax aa S hax hFI hI hL hit haa R hR
  obtain ⟨vs, n, hv, hr, hz⟩ := S.s.list hax hj
  have e : vs.size = xs.length := by rw [← hr.length, Array.length_toList]
  refine codeAny_of_tree ?_
  show wpAny _ _ ((compTurn (.ListComp elt [⟨.Name x px, iter, [], 0⟩] scope pos) 0 (.ref I) (.ref aa) C.env).onRaise (fun x => do noteFrame x C.env; theTreesLotGoes x)) _ _ s
  refine wpAny_noted ?_
  rw [compTurn_list1]
  refine wpAny_bind (wpAny_standAt (wpAny_bind ?_))
  refine wpAny_pyNext_list_end S.good.hd hit ⟨_, hv, rfl, n, rfl⟩ (Array.getElem?_eq_none (by omega)) fun h1 he' => ?_
  exact wpAny_pure (hR lo h1 _ ρ F (S.keep (keep_off hFI hI hL fun b o hb e => he' b o (fun h => hb (by simp [h])) e)) (List.prefix_refl _) (FLe.refl _))
theorem cpl_cons (hx : C.keys[0]? = some x) (hj : st[j]? = some (.list ys)) (hk : ys[k]? = some p) (he : Ev C (lo.set 0 (some p)) st elt r st1) (hm : st1[m]? = some (.list xs)) (hz : xs.length < 1000) (hs : CpL C (lo.set 0 (some p)) (st1.set m (.list (xs ++ [r]))) x px elt iter scope pos m j (k + 1) stB) :
    CpL C lo st x px elt iter scope pos m j k stB := by
  intro s ρ F I ax aa S hax hFI hI hL hit haa R hR
  have hg : C.P.h0.get? I = none := S.h0_none hFI
  obtain ⟨vs, n, hv, hr, hz'⟩ := S.s.list hax hj
  obtain ⟨v, ev, rv⟩ := hr.get hk
  rw [Array.getElem?_toList] at ev
  refine codeAny_of_tree ?_
  show wpAny _ _ ((compTurn (.ListComp elt [⟨.Name x px, iter, [], 0⟩] scope pos) 0 (.ref I) (.ref aa) C.env).onRaise (fun x => do noteFrame x C.env; theTreesLotGoes x)) _ _ s
  refine wpAny_noted ?_
  rw [compTurn_list1]
  refine wpAny_bind (wpAny_standAt (wpAny_bind ?_))
  refine wpAny_pyNext_list_item hit ⟨_, hv, rfl, n, rfl⟩ ev fun h2 hit2 hs2 => ?_
  refine wpAny_bind (wpAny_of_eq (show letOwnedTupleGo (.Name x px) (.ref I) v = pure () from rfl) ?_)
  have S2 : Sim C lo st ρ F h2 := S.keep (keep_off hFI hI hL fun b o hb e => hs2.extBut b o (fun h => hb (by simp [h])) e)
  obtain ⟨o2, ho2, hd2⟩ := iter_not hit2
  have Sf := S2.freeze hFI hI hL ho2
  have le := addF_le (o := o2) hFI
  refine wpAny_bind (wpAny_assign_Name (Sf.storeName hx (rv.mono (List.prefix_refl _) le) fun h3 tk3 S3 => ?_))
  refine wpAny_bind (wpAny_bind (wpAny_noE (he.run _ ρ _ S3 _ fun u h4 tk4 ρ4 F4 ru S4 p4 g4 => ?_)))
  have haa4 := pre_get p4 haa
  refine wpAny_bind (wpAny_noE ((cl_append (P := C.P) (T := C.T) (lv := 0) hm hz).use (Nat.zero_le _) (s := Rest (Rest (Rest s h2 s.toks) h3 tk3) h4 tk4) S4 (.cons (.loc haa4) (.cons ru .nil)) fun v5 h5 tk5 ρ5 F5 rv5 S5 p5 g5 => ?_))
  refine wpAny_pure (wpAny_pure ⟨rfl, ?_⟩)
  have hI5 : F5 I = some o2 := g5 _ _ (g4 _ _ addF_self)
  have leD : FLe F (delF F5 I) := delF_le hFI (le.trans (g4.trans g5))
  have S6 := S5.thaw hI5 hd2 hg
  have hI' : I ∉ ρ5 := fun q => by have := S5.s.off _ q; rw [hI5] at this; cases this
  have p45 := p4.trans p5
  refine hs _ ρ5 (delF F5 I) I ax aa S6 (pre_get p45 hax) (by unfold delF; rw [if_pos rfl]) hI' hL ?_ (pre_get p45 haa) R fun lo' h6 tk6 ρ6 F6 os6 p6 g6 => hR lo' h6 tk6 ρ6 F6 os6 (p45.trans p6) (leD.trans g6)
  obtain ⟨o', ho', hc', hd'⟩ := hit2
  rw [ho2] at ho'; cases ho'
  exact ⟨o2, S5.s.fin _ _ hI5, hc', hd'⟩
theorem comp_coreL {s : Shared} {ρ : List Addr} {F : Frz} {cl : List (Str × Addr)} {gk : List Str} {ck : List (Str × Nat)} {p' : Pos} {use : Option (Value → Sem Unit)} {Q : Value → Shared → Prop} (S : Sim C lo st ρ F s.heap) (hi : Ev C lo st iter (.loc j) st1) (hj : st1[j]? = some (.list xs)) (ok : CompOK C scope cl x gk ck)
    (hrun : ∀ L, CpL (compCx C scope cl x gk ck L) [none] (st1 ++ [.list []]) x px elt iter scope pos st1.length j 0 stB) (hs : ∀ x, foldedSetIterable iter C.env x = pure x)
    (hQ : ∀ (L : Addr) (aa : Addr) (oLL : Obj) (h' : Heap) (tk : Nat) (ρ' : List Addr) (F' : Frz), Sim C lo stB ρ' F' h' → ρ <+: ρ' → FLe F F' → ρ'[st1.length]? = some aa → F' L = none → L ∉ ρ' → L ≠ C.env.locals → h'.get? L = some oLL → (∃ m, h'.Ns L m) →
      compPost (model C.P.prog C.P.w) C.A NoE use Q (.ref aa) L (.ok .next) (Rest s h' tk)) :
    wpAny (model C.P.prog C.P.w) C.A (comprehension (.ListComp elt [⟨.Name x px, iter, [], 0⟩] scope pos) scope C.env p' (newList []) false (eval iter C.env) use) Q NoE s := by
  refine wpAny_comprehension_free (use := use) rfl hs ok.clos ok.kind ok.names (hi.run s ρ F S _ fun v0 h0 tk ρ1 F1 r0 S0 p1 f1 => ?_)
  obtain ⟨ax, rfl, hax⟩ := r0.toLoc
  obtain ⟨vs, nn, hv, hr, hz⟩ := S0.s.list hax hj
  refine wpAny_pyIter_list ⟨_, hv, rfl, nn, rfl⟩ ?_
  obtain ⟨hFI, hI, hL⟩ := S0.fresh (get_size (h := h0))
  have S1 := S0.grow fun b o e => Heap.get?_push_of_some { cls := .type "list_iterator", data := .fields #[.ref ax, .int 0 0] } e
  have hit0 : (h0.push { cls := .type "list_iterator", data := .fields #[.ref ax, .int 0 0] }).IsListIter h0.objs.size ax 0 := ⟨_, Heap.get?_push_size _ rfl, rfl, rfl⟩
  generalize hIe : h0.objs.size = I at hFI hI hL hit0 ⊢
  dsimp only
  generalize he' : h0.push { cls := .type "list_iterator", data := .fields #[.ref ax, .int 0 0] } = h' at S1 hit0 ⊢
  obtain ⟨oL, nd, le, SF, back⟩ := S1.frz
  refine wpAny_newObj_type ?_ (by size_fits)
  dsimp only
  have pre : ρ1 <+: ρ1 ++ [h'.objs.size] := List.prefix_append _ _
  have S2 := SF.addCell (c := .list []) (get_size (h := h')) (h' := h'.push (listOf #[] 0)) ⟨#[], 0, Heap.get?_push_size _ rfl, .nil, by decide⟩ (fun b q e => Heap.get?_push_of_some _ e)
  refine wpAny_newFunctionEnv ok.nocell (by intro y hy; simp at hy) (fun h3 hns hsb => ?_) ok.kind
  dsimp only at hns hsb ⊢
  have hk3 : ∀ b o, (h'.push (listOf #[] 0)).get? b = some o → h3.get? b = some o := fun b o e => hsb.extBut b o (Nat.ne_of_lt (Heap.lt_size e)) (Heap.get?_push_of_some _ e)
  have S3 := S2.keep (h' := h3) fun a o e _ => hk3 a o e
  have frL := S2.fresh (get_size (h := h'.push (listOf #[] 0)))
  have kL : addF F1 C.env.locals oL C.env.locals = some oL := addF_self
  have hLne : (h'.push (listOf #[] 0)).objs.size ≠ C.env.locals := fun z => by
    have := S2.fin _ _ kL
    rw [← z, get_size] at this; cases this
  have good : GoodCx (compCx C scope cl x gk ck (h'.push (listOf #[] 0)).objs.size) :=
    ⟨S.good.gd, S.good.hd, S.good.room, S.good.units, ok.kind, fun y hy => by rw [List.mem_singleton.mp hy]; exact lookup_relabel_local ok.var, ok.gks, (by show [x].Nodup; simp), ok.cks, S.good.glb, S.good.blt⟩
  have SK : Sim (compCx C scope cl x gk ck (h'.push (listOf #[] 0)).objs.size) [none] (st1 ++ [.list []]) (ρ1 ++ [h'.objs.size]) (addF F1 C.env.locals oL) h3 := by
    refine ⟨good, S3, frL.1, frL.2, rfl, fun q hq => ?_, _, hns, fun i y hy => ?_⟩
    · obtain ⟨a, e1, e2, e3⟩ := ok.cel q hq
      obtain ⟨a', e4, e5⟩ := S1.cel q e3
      rw [e2] at e4; cases e4
      exact ⟨a, e1, pre_get pre e5⟩
    · cases i with
      | zero => exact trivial
      | succ i => exact trivial
  have old : ∀ b o, h'.get? b = some o → h3.get? b = some o := fun b o e => hk3 b o (Heap.get?_push_of_some _ e)
  have hst3 : h3.IsListIter I ax 0 := let ⟨o, ho, q⟩ := hit0; ⟨o, old _ _ ho, q⟩
  obtain ⟨oI, hoI, _⟩ := id hit0
  have hIne : I ≠ (h'.push (listOf #[] 0)).objs.size := Nat.ne_of_lt (by rw [Heap.size_push]; exact Nat.lt_succ_of_lt (Heap.lt_size hoI))
  have hIF : addF F1 C.env.locals oL I = none := by unfold addF; rw [if_neg hL]; exact hFI
  have hIr : I ∉ ρ1 ++ [h'.objs.size] := by
    rw [List.mem_append, List.mem_singleton]; rintro (z | z)
    · exact hI z
    · rw [z, get_size] at hoI; cases hoI
  have haa : (ρ1 ++ [h'.objs.size])[st1.length]? = some h'.objs.size := at_new S1
  have loop : ∀ s3 : Shared, s3 = Rest s h3 (tk + ([] : List (Str × Value)).length) → codeAny (model C.P.prog C.P.w) C.A (.compLoop (.ListComp elt [⟨.Name x px, iter, [], 0⟩] scope pos) 0 (.ref I) (.ref h'.objs.size) (compEnvC scope cl (h'.push (listOf #[] 0)).objs.size C.env)) (compPost (model C.P.prog C.P.w) C.A NoE use Q (.ref h'.objs.size) (h'.push (listOf #[] 0)).objs.size) s3 := by
    rintro s3 rfl
    refine hrun _ _ (ρ1 ++ [h'.objs.size]) _ I ax h'.objs.size SK (pre_get pre hax) hIF hIr hIne hst3 haa _ fun lo' h6 tk6 ρ6 F6 S6 p6 g6 => ?_
    · obtain ⟨_, SC, gC⟩ := back (r := .none) (v := .none) .none S6.s (pre.trans p6) g6
      obtain ⟨m6, hn6, _⟩ := S6.ns
      obtain ⟨oLL, _, _, hoL, _⟩ := id hn6
      exact hQ _ _ oLL h6 tk6 ρ6 _ SC (p1.trans (pre.trans p6)) (f1.trans gC) (pre_get p6 haa) (by unfold delF; split <;> first | rfl | exact S6.L1) S6.L2 hLne hoL ⟨m6, hn6⟩
  exact codeAny_compStart_list (loop _ rfl) (wpAny_pyIter_listiter hst3 (loop _ rfl))
theorem ev_listcompL {cl : List (Str × Addr)} {gk : List Str} {ck : List (Str × Nat)} (hi : Ev C lo st iter (.loc j) st1) (hj : st1[j]? = some (.list xs)) (ok : CompOK C scope cl x gk ck)
    (hrun : ∀ L, CpL (compCx C scope cl x gk ck L) [none] (st1 ++ [.list []]) x px elt iter scope pos st1.length j 0 stB) (hs : ∀ x, foldedSetIterable iter C.env x = pure x := by intro _; rfl) :
    Ev C lo st (.ListComp elt [⟨.Name x px, iter, [], 0⟩] scope pos) (.loc st1.length) stB := by
  refine .mk fun s ρ F S Q hQ => ?_
  rw [eval_ListComp]
  refine comp_coreL (use := none) S hi hj ok hrun hs fun L aa oLL h' tk ρ' F' SC p f ha hFL hLr hLne hoL hm => ?_
  obtain ⟨m, hm⟩ := hm
  refine ⟨m, hm, fun h2 hs2 => hQ _ h2 tk ρ' F' (.loc ha) (SC.keep fun a o e q => (hs2.2 a fun z => ?_).trans e) p f⟩
  subst z
  rcases q with q | q | q
  · exact hLr q
  · rw [hFL] at q; cases q
  · exact hLne q
theorem ex_assign_compL {y : Str} {py spos : Pos} {cl : List (Str × Addr)} {gk : List Str} {ck : List (Str × Nat)} (i : Nat) (hi : Ev C lo st iter (.loc j) st1) (hj : st1[j]? = some (.list xs)) (ok : CompOK C scope cl x gk ck)
    (hrun : ∀ L, CpL (compCx C scope cl x gk ck L) [none] (st1 ++ [.list []]) x px elt iter scope pos st1.length j 0 stB) (k : Ex C (lo.set i (some (.loc st1.length))) stB rest K) (hy : C.keys[i]? = some y := by rfl) (hs : ∀ x, foldedSetIterable iter C.env x = pure x := by intro _; rfl)
    (hsw : swapsWith (.ListComp elt [⟨.Name x px, iter, [], 0⟩] scope pos) (some (.Name y py)) spos.line C.env = pure true := by rfl) :
    Ex C lo st (.Assign [.Name y py] (.ListComp elt [⟨.Name x px, iter, [], 0⟩] scope pos) spos :: rest) K := by
  refine ex_cons fun s ρ F S Q hQ => ?_
  rw [exec_Assign_Name_used _ _ _ _ hsw]
  refine wpAny_bind (wpAny_standAt (wpAny_bind ?_))
  show wpAny _ C.A (do let _ ← comprehension (.ListComp elt [⟨.Name x px, iter, [], 0⟩] scope pos) scope C.env _ (newList []) false (eval iter C.env) (some (assign (.Name y py) C.env))) _ _ s
  refine wpAny_bind (wpAny_mono (comp_coreL (use := some (assign (.Name y py) C.env)) (Q := fun _ s' => Q .next s') S hi hj ok hrun hs fun L aa oLL h' tk ρ' F' SC p f ha hFL hLr hLne hoL hm => ?_) (fun _ s' hq => wpAny_pure (wpAny_pure hq)) fun _ _ e => e)
  obtain ⟨m, oo, es, ep, e, hr⟩ := hm
  rw [hoL] at e; cases e
  have dL := hr.1
  have nd : NotData oLL := ⟨fun vs e => (by rw [e] at dL; cases dL), fun C d e => (by rw [e] at dL; cases dL)⟩
  have SF := SC.freeze hFL hLr hLne hoL
  have leF := addF_le (o := oLL) hFL
  refine wpAny_assign_Name (SF.storeName hy (.loc ha) fun h2 tk2 S2 => ?_)
  have hg := S2.s.fin _ _ (addF_self (F := F') (a := L) (o := oLL))
  refine ⟨m, ⟨oLL, es, ep, hg, hr⟩, fun h3 hs3 => ?_⟩
  have S3 := S2.thaw (a := L) (o := oLL) addF_self nd (SC.h0_none hFL)
  have S4 := S3.keep (h' := h3) fun a o e q => (hs3.2 a fun z => by
    subst z
    rcases q with q | q | q
    · exact hLr q
    · unfold delF at q; rw [if_pos rfl] at q; cases q
    · exact hLne q).trans e
  exact hQ (.next _ _) k _ h3 _ ρ' _ ⟨rfl, S4⟩ p (f.trans (delF_le hFL leF))
end
end Mine
end
section
open PySem PySem.W PySem.Calls PyProof.Rows PySem.Builtin.Str
set_option Elab.async false
set_option autoImplicit false
set_option linter.all false
set_option maxRecDepth 100000
namespace Mine
noncomputable def kerE0 (n : Nat) : List (Str × PV) := thrE (.int 0) (.loc (n + 4)) (.int 0) (.loc (n + 5)) (.str "top") (n + 6)
noncomputable def kerE (n : Nat) : List (Str × PV) := kerE0 n ++ [(("out" : Str), PV.loc (n + 11)), ("queue", .loc (n + 15)), ("events", .loc (n + 19)), ("monitors", .loc (n + 20)), ("lent", .loc (n + 21)), ("back", .loc (n + 22)), ("context", .loc (n + 26)), ("close_context", .loc (n + 28)), ("set_monitor", .loc (n + 32))]
noncomputable def queE (n : Nat) : List (Str × PV) := thrE (.int 1) (.loc (n + 12)) (.int 0) (.loc (n + 13)) (.str "top") (n + 14) ++ [(("add" : Str), PV.loc (n + 30))]
noncomputable def fnC (k : Nat) (name qual : Str) (cs : List (Str × Nat)) (ic : Nat) : Cell := .fn name qual (defP k) (defB k) (defS k) cs ic
noncomputable def kerCells (n lw ln : Nat) (out ev mon lent back : List PV) : List Cell :=
  [.cell (some (.loc lw)), .cell (some (.loc ln)), .cell (some (.loc (n + 24))), .cell (some (.loc (n + 7))),
   .list [], .list [], .dict (kerE n), .inst thr (n + 6), .list [], .list [], .dict [],
   .list out, .list [], .list [], .dict (queE n), .inst thr (n + 14), .list [], .list [], .dict [],
   .list ev, .list mon, .list lent, .list back,
   .code "_law_kernel.<locals>._law_get", fnC 7 "_law_get" "_law_kernel.<locals>._law_get" [("wides", n), ("numbers", n + 1)] (n + 23),
   .code "_law_kernel.<locals>._law_context", fnC 8 "_law_context" "_law_kernel.<locals>._law_context" [("kernel", n + 3), ("_law_get", n + 2)] (n + 25),
   .code "_law_kernel.<locals>._law_back", fnC 9 "_law_back" "_law_kernel.<locals>._law_back" [("kernel", n + 3)] (n + 27),
   .code "_law_kernel.<locals>._law_late", fnC 10 "_law_late" "_law_kernel.<locals>._law_late" [("kernel", n + 3)] (n + 29),
   .code "_law_kernel.<locals>._law_monitor", fnC 11 "_law_monitor" "_law_kernel.<locals>._law_monitor" [("kernel", n + 3)] (n + 31)]
noncomputable def defPos (k : Nat) : Pos := match (bodyOf 110)[k]? with
  | some (.FunctionDef _ _ _ _ _ _ _ _ _ p) => p
  | _ => default
section
variable {P : Pg} {lv : Nat} {st : List Cell} {lw ln : Nat}
theorem gK' {S g : List Cell} {n : Nat} (hn : S.length = n) (k : Nat) {c : Cell} (h : g[k]? = some c) : (S ++ g)[n + k]? = some c := hn ▸ gK k h
theorem setK' {S g : List Cell} {n : Nat} (hn : S.length = n) (k : Nat) {c : Cell} : (S ++ g).set (n + k) c = S ++ g.set k c := hn ▸ setK k
theorem closOf_nil {C : Cx} : ClosOf C [] [] := trivial
theorem closOf_cons {C : Cx} {n : Str} {a : Addr} {i : Nat} {l : List (Str × Addr)} {m : List (Str × Nat)} (k : Nat) (h1 : C.env.cells.lookup n = some a) (h2 : C.ckeys[k]? = some (n, i)) (h : ClosOf C l m) : ClosOf C ((n, a) :: l) ((n, i) :: m) := ⟨rfl, h1, List.mem_of_getElem? h2, h⟩
theorem kernel_cl (h0 : st[0]? = some (.tab [])) : Cl P tabs (lv + 3) (.ref 735) [.loc lw, .loc ln] st (.loc (st.length + 7)) (st.set 0 (.tab [defPos 11, defPos 10, defPos 9, defPos 8, defPos 7]) ++ kerCells st.length lw ln [] [] [] [] []) := by
  refine clc_def ok_law_kernel (k := 35) rfl rfl fun A L => ?_
  conv => arg 4; whnf
  have hst : 0 < st.length := lt_of_get h0
  conv => arg 3; rw [show (List.map (fun o => Cell.cell (argOf [.loc lw, .loc ln] o)) [some 0, some 1, none, none]) = [.cell (some (.loc lw)), .cell (some (.loc ln)), .cell none, .cell none] from rfl]
  generalize hg1 : [Cell.cell (some (.loc lw)), .cell (some (.loc ln)), .cell none, .cell none] = g1
  have l1 : (st ++ g1).length = st.length + 4 := by rw [← hg1]; simp
  have l2 : (st ++ g1 ++ [Cell.list []]).length = st.length + 5 := by rw [List.length_append, l1]; rfl
  have l3 : (st ++ g1 ++ [Cell.list []] ++ [Cell.list []]).length = st.length + 6 := by rw [List.length_append, l2]; rfl
  refine ex_cassign (j := st.length + 3) 3 (ev_new (lv := lv + 1) (vs := [.int 0, .loc (st.length + 4), .int 0, .loc (st.length + 5), .str "top"]) (ev_glob 0 37) (evs_cons ev_int
    (evs_cons (l1 ▸ ev_list evs_nil (by decide)) (evs_cons ev_int (evs_cons (l2 ▸ ev_list evs_nil (by decide)) (evs_cons ev_str evs_nil))))) init_cd (by show lv + 2 ≤ lv + 2; omega)) (v0 := none) ?_ ?_
  · rw [appL, appL, appL, ← hg1]; exact gK 3 rfl
  rw [l3, appL, appL, appL, setK 3]
  generalize hg2 : (g1 ++ ([Cell.list []] ++ ([Cell.list []] ++ [Cell.dict (thrE (.int 0) (.loc (st.length + 4)) (.int 0) (.loc (st.length + 5)) (.str "top") (st.length + 6)), .inst thr (st.length + 6), .list [], .list [], .dict []]))).set 3 (.cell (some (.loc (st.length + 6 + 1)))) = g2
  have e2 : g2 = [Cell.cell (some (.loc lw)), .cell (some (.loc ln)), .cell none, .cell (some (.loc (st.length + 7))), .list [], .list [], .dict (kerE0 st.length), .inst thr (st.length + 6), .list [], .list [], .dict []] := by rw [← hg2, ← hg1]; rfl
  subst e2
  have m1 : (st ++ [Cell.cell (some (.loc lw)), Cell.cell (some (.loc ln)), Cell.cell none, Cell.cell (some (PV.loc (st.length + 7))), Cell.list [], Cell.list [], Cell.dict (kerE0 st.length), Cell.inst thr (st.length + 6), Cell.list [], Cell.list [], Cell.dict []]).length = st.length + 11 := by simp
  refine ex_setnew (i := st.length + 7) (j := st.length + 6) (es := (kerE0 st.length)) (ev_list evs_nil (by decide)) (ev_cname 3 rfl (by rw [appL]; exact gK 3 rfl)) (by rw [appL]; exact gK 7 rfl) (by rw [appL]; exact gK 6 rfl) ?_
  rw [m1, appL, setK 6]
  change Ex _ _ (st ++ [Cell.cell (some (.loc lw)), Cell.cell (some (.loc ln)), Cell.cell none, Cell.cell (some (PV.loc (st.length + 7))), Cell.list [], Cell.list [], Cell.dict (kerE0 st.length ++ [(("out" : Str), PV.loc (st.length + 11))]), Cell.inst thr (st.length + 6), Cell.list [], Cell.list [], Cell.dict [], Cell.list []]) _ _
  have q1 : (st ++ [Cell.cell (some (.loc lw)), Cell.cell (some (.loc ln)), Cell.cell none, Cell.cell (some (PV.loc (st.length + 7))), Cell.list [], Cell.list [], Cell.dict (kerE0 st.length ++ [(("out" : Str), PV.loc (st.length + 11))]), Cell.inst thr (st.length + 6), Cell.list [], Cell.list [], Cell.dict [], Cell.list []]).length = st.length + 12 := by simp
  have q2 : (st ++ [Cell.cell (some (.loc lw)), Cell.cell (some (.loc ln)), Cell.cell none, Cell.cell (some (PV.loc (st.length + 7))), Cell.list [], Cell.list [], Cell.dict (kerE0 st.length ++ [(("out" : Str), PV.loc (st.length + 11))]), Cell.inst thr (st.length + 6), Cell.list [], Cell.list [], Cell.dict [], Cell.list []] ++ [Cell.list []]).length = st.length + 13 := by simp
  have q3 : (st ++ [Cell.cell (some (.loc lw)), Cell.cell (some (.loc ln)), Cell.cell none, Cell.cell (some (PV.loc (st.length + 7))), Cell.list [], Cell.list [], Cell.dict (kerE0 st.length ++ [(("out" : Str), PV.loc (st.length + 11))]), Cell.inst thr (st.length + 6), Cell.list [], Cell.list [], Cell.dict [], Cell.list []] ++ [Cell.list []] ++ [Cell.list []]).length = st.length + 14 := by simp
  refine ex_setnew (i := st.length + 7) (j := st.length + 6) (es := (kerE0 st.length ++ [(("out" : Str), PV.loc (st.length + 11))])) (ev_new (lv := lv + 1) (vs := [.int 1, PV.loc (st.length + 12), .int 0, PV.loc (st.length + 13), .str "top"]) (ev_glob 0 37) (evs_cons ev_int (evs_cons (q1 ▸ ev_list evs_nil (by decide)) (evs_cons ev_int (evs_cons (q2 ▸ ev_list evs_nil (by decide)) (evs_cons ev_str evs_nil))))) init_cd (by show lv + 2 ≤ lv + 2; omega)) (ev_cname 3 rfl (by rw [appL, appL, appL]; exact gK 3 rfl)) (by rw [appL, appL, appL]; exact gK 7 rfl) (by rw [appL, appL, appL]; exact gK 6 rfl) ?_
  rw [q3, appL, appL, appL, setK 6]
  change Ex _ _ (st ++ [Cell.cell (some (.loc lw)), Cell.cell (some (.loc ln)), Cell.cell none, Cell.cell (some (PV.loc (st.length + 7))), Cell.list [], Cell.list [], Cell.dict (kerE0 st.length ++ [(("out" : Str), PV.loc (st.length + 11)), (("queue" : Str), PV.loc (st.length + 15))]), Cell.inst thr (st.length + 6), Cell.list [], Cell.list [], Cell.dict [], Cell.list [], Cell.list [], Cell.list [], Cell.dict (thrE (.int 1) (PV.loc (st.length + 12)) (.int 0) (PV.loc (st.length + 13)) (.str "top") (st.length + 14)), Cell.inst thr (st.length + 14), Cell.list [], Cell.list [], Cell.dict []]) _ _
  have m2 : (st ++ [Cell.cell (some (.loc lw)), Cell.cell (some (.loc ln)), Cell.cell none, Cell.cell (some (PV.loc (st.length + 7))), Cell.list [], Cell.list [], Cell.dict (kerE0 st.length ++ [(("out" : Str), PV.loc (st.length + 11)), (("queue" : Str), PV.loc (st.length + 15))]), Cell.inst thr (st.length + 6), Cell.list [], Cell.list [], Cell.dict [], Cell.list [], Cell.list [], Cell.list [], Cell.dict (thrE (.int 1) (PV.loc (st.length + 12)) (.int 0) (PV.loc (st.length + 13)) (.str "top") (st.length + 14)), Cell.inst thr (st.length + 14), Cell.list [], Cell.list [], Cell.dict []]).length = st.length + 19 := by simp
  refine ex_setnew (i := st.length + 7) (j := st.length + 6) (es := (kerE0 st.length ++ [(("out" : Str), PV.loc (st.length + 11)), (("queue" : Str), PV.loc (st.length + 15))])) (ev_list evs_nil (by decide)) (ev_cname 3 rfl (by rw [appL]; exact gK 3 rfl)) (by rw [appL]; exact gK 7 rfl) (by rw [appL]; exact gK 6 rfl) ?_
  rw [m2, appL, setK 6]
  change Ex _ _ (st ++ [Cell.cell (some (.loc lw)), Cell.cell (some (.loc ln)), Cell.cell none, Cell.cell (some (PV.loc (st.length + 7))), Cell.list [], Cell.list [], Cell.dict (kerE0 st.length ++ [(("out" : Str), PV.loc (st.length + 11)), (("queue" : Str), PV.loc (st.length + 15)), (("events" : Str), PV.loc (st.length + 19))]), Cell.inst thr (st.length + 6), Cell.list [], Cell.list [], Cell.dict [], Cell.list [], Cell.list [], Cell.list [], Cell.dict (thrE (.int 1) (PV.loc (st.length + 12)) (.int 0) (PV.loc (st.length + 13)) (.str "top") (st.length + 14)), Cell.inst thr (st.length + 14), Cell.list [], Cell.list [], Cell.dict [], Cell.list []]) _ _
  have m3 : (st ++ [Cell.cell (some (.loc lw)), Cell.cell (some (.loc ln)), Cell.cell none, Cell.cell (some (PV.loc (st.length + 7))), Cell.list [], Cell.list [], Cell.dict (kerE0 st.length ++ [(("out" : Str), PV.loc (st.length + 11)), (("queue" : Str), PV.loc (st.length + 15)), (("events" : Str), PV.loc (st.length + 19))]), Cell.inst thr (st.length + 6), Cell.list [], Cell.list [], Cell.dict [], Cell.list [], Cell.list [], Cell.list [], Cell.dict (thrE (.int 1) (PV.loc (st.length + 12)) (.int 0) (PV.loc (st.length + 13)) (.str "top") (st.length + 14)), Cell.inst thr (st.length + 14), Cell.list [], Cell.list [], Cell.dict [], Cell.list []]).length = st.length + 20 := by simp
  refine ex_setnew (i := st.length + 7) (j := st.length + 6) (es := (kerE0 st.length ++ [(("out" : Str), PV.loc (st.length + 11)), (("queue" : Str), PV.loc (st.length + 15)), (("events" : Str), PV.loc (st.length + 19))])) (ev_list evs_nil (by decide)) (ev_cname 3 rfl (by rw [appL]; exact gK 3 rfl)) (by rw [appL]; exact gK 7 rfl) (by rw [appL]; exact gK 6 rfl) ?_
  rw [m3, appL, setK 6]
  change Ex _ _ (st ++ [Cell.cell (some (.loc lw)), Cell.cell (some (.loc ln)), Cell.cell none, Cell.cell (some (PV.loc (st.length + 7))), Cell.list [], Cell.list [], Cell.dict (kerE0 st.length ++ [(("out" : Str), PV.loc (st.length + 11)), (("queue" : Str), PV.loc (st.length + 15)), (("events" : Str), PV.loc (st.length + 19)), (("monitors" : Str), PV.loc (st.length + 20))]), Cell.inst thr (st.length + 6), Cell.list [], Cell.list [], Cell.dict [], Cell.list [], Cell.list [], Cell.list [], Cell.dict (thrE (.int 1) (PV.loc (st.length + 12)) (.int 0) (PV.loc (st.length + 13)) (.str "top") (st.length + 14)), Cell.inst thr (st.length + 14), Cell.list [], Cell.list [], Cell.dict [], Cell.list [], Cell.list []]) _ _
  have m4 : (st ++ [Cell.cell (some (.loc lw)), Cell.cell (some (.loc ln)), Cell.cell none, Cell.cell (some (PV.loc (st.length + 7))), Cell.list [], Cell.list [], Cell.dict (kerE0 st.length ++ [(("out" : Str), PV.loc (st.length + 11)), (("queue" : Str), PV.loc (st.length + 15)), (("events" : Str), PV.loc (st.length + 19)), (("monitors" : Str), PV.loc (st.length + 20))]), Cell.inst thr (st.length + 6), Cell.list [], Cell.list [], Cell.dict [], Cell.list [], Cell.list [], Cell.list [], Cell.dict (thrE (.int 1) (PV.loc (st.length + 12)) (.int 0) (PV.loc (st.length + 13)) (.str "top") (st.length + 14)), Cell.inst thr (st.length + 14), Cell.list [], Cell.list [], Cell.dict [], Cell.list [], Cell.list []]).length = st.length + 21 := by simp
  refine ex_setnew (i := st.length + 7) (j := st.length + 6) (es := (kerE0 st.length ++ [(("out" : Str), PV.loc (st.length + 11)), (("queue" : Str), PV.loc (st.length + 15)), (("events" : Str), PV.loc (st.length + 19)), (("monitors" : Str), PV.loc (st.length + 20))])) (ev_list evs_nil (by decide)) (ev_cname 3 rfl (by rw [appL]; exact gK 3 rfl)) (by rw [appL]; exact gK 7 rfl) (by rw [appL]; exact gK 6 rfl) ?_
  rw [m4, appL, setK 6]
  change Ex _ _ (st ++ [Cell.cell (some (.loc lw)), Cell.cell (some (.loc ln)), Cell.cell none, Cell.cell (some (PV.loc (st.length + 7))), Cell.list [], Cell.list [], Cell.dict (kerE0 st.length ++ [(("out" : Str), PV.loc (st.length + 11)), (("queue" : Str), PV.loc (st.length + 15)), (("events" : Str), PV.loc (st.length + 19)), (("monitors" : Str), PV.loc (st.length + 20)), (("lent" : Str), PV.loc (st.length + 21))]), Cell.inst thr (st.length + 6), Cell.list [], Cell.list [], Cell.dict [], Cell.list [], Cell.list [], Cell.list [], Cell.dict (thrE (.int 1) (PV.loc (st.length + 12)) (.int 0) (PV.loc (st.length + 13)) (.str "top") (st.length + 14)), Cell.inst thr (st.length + 14), Cell.list [], Cell.list [], Cell.dict [], Cell.list [], Cell.list [], Cell.list []]) _ _
  have m5 : (st ++ [Cell.cell (some (.loc lw)), Cell.cell (some (.loc ln)), Cell.cell none, Cell.cell (some (PV.loc (st.length + 7))), Cell.list [], Cell.list [], Cell.dict (kerE0 st.length ++ [(("out" : Str), PV.loc (st.length + 11)), (("queue" : Str), PV.loc (st.length + 15)), (("events" : Str), PV.loc (st.length + 19)), (("monitors" : Str), PV.loc (st.length + 20)), (("lent" : Str), PV.loc (st.length + 21))]), Cell.inst thr (st.length + 6), Cell.list [], Cell.list [], Cell.dict [], Cell.list [], Cell.list [], Cell.list [], Cell.dict (thrE (.int 1) (PV.loc (st.length + 12)) (.int 0) (PV.loc (st.length + 13)) (.str "top") (st.length + 14)), Cell.inst thr (st.length + 14), Cell.list [], Cell.list [], Cell.dict [], Cell.list [], Cell.list [], Cell.list []]).length = st.length + 22 := by simp
  refine ex_setnew (i := st.length + 7) (j := st.length + 6) (es := (kerE0 st.length ++ [(("out" : Str), PV.loc (st.length + 11)), (("queue" : Str), PV.loc (st.length + 15)), (("events" : Str), PV.loc (st.length + 19)), (("monitors" : Str), PV.loc (st.length + 20)), (("lent" : Str), PV.loc (st.length + 21))])) (ev_list evs_nil (by decide)) (ev_cname 3 rfl (by rw [appL]; exact gK 3 rfl)) (by rw [appL]; exact gK 7 rfl) (by rw [appL]; exact gK 6 rfl) ?_
  rw [m5, appL, setK 6]
  change Ex _ _ (st ++ [Cell.cell (some (.loc lw)), Cell.cell (some (.loc ln)), Cell.cell none, Cell.cell (some (PV.loc (st.length + 7))), Cell.list [], Cell.list [], Cell.dict (kerE0 st.length ++ [(("out" : Str), PV.loc (st.length + 11)), (("queue" : Str), PV.loc (st.length + 15)), (("events" : Str), PV.loc (st.length + 19)), (("monitors" : Str), PV.loc (st.length + 20)), (("lent" : Str), PV.loc (st.length + 21)), (("back" : Str), PV.loc (st.length + 22))]), Cell.inst thr (st.length + 6), Cell.list [], Cell.list [], Cell.dict [], Cell.list [], Cell.list [], Cell.list [], Cell.dict (thrE (.int 1) (PV.loc (st.length + 12)) (.int 0) (PV.loc (st.length + 13)) (.str "top") (st.length + 14)), Cell.inst thr (st.length + 14), Cell.list [], Cell.list [], Cell.dict [], Cell.list [], Cell.list [], Cell.list [], Cell.list []]) _ _
  have m6 : (st ++ [Cell.cell (some (.loc lw)), Cell.cell (some (.loc ln)), Cell.cell none, Cell.cell (some (PV.loc (st.length + 7))), Cell.list [], Cell.list [], Cell.dict (kerE0 st.length ++ [(("out" : Str), PV.loc (st.length + 11)), (("queue" : Str), PV.loc (st.length + 15)), (("events" : Str), PV.loc (st.length + 19)), (("monitors" : Str), PV.loc (st.length + 20)), (("lent" : Str), PV.loc (st.length + 21)), (("back" : Str), PV.loc (st.length + 22))]), Cell.inst thr (st.length + 6), Cell.list [], Cell.list [], Cell.dict [], Cell.list [], Cell.list [], Cell.list [], Cell.dict (thrE (.int 1) (PV.loc (st.length + 12)) (.int 0) (PV.loc (st.length + 13)) (.str "top") (st.length + 14)), Cell.inst thr (st.length + 14), Cell.list [], Cell.list [], Cell.dict [], Cell.list [], Cell.list [], Cell.list [], Cell.list []]).length = st.length + 23 := by simp
  refine ex_cdef (j := st.length + 2) (cs := [(("wides" : Str), st.length), (("numbers" : Str), st.length + 1)]) "_law_kernel.<locals>._law_get" 2 (closOf_cons (a := L + 1) 0 rfl rfl (closOf_cons (a := L + 2) 1 rfl rfl closOf_nil)) (gL h0) (fun _ h => nomatch h) (v0 := none) ?_ ?_
  · rw [m6, List.set_append_left 0 _ (by first | exact Nat.lt_of_lt_of_le hst (by first | exact Nat.le_refl _ | (rw [List.length_set]; exact Nat.le_refl _))), appL]; exact gK' (by simp) 2 rfl
  rw [m6, List.set_append_left 0 _ (by first | exact Nat.lt_of_lt_of_le hst (by first | exact Nat.le_refl _ | (rw [List.length_set]; exact Nat.le_refl _))), appL]
  rw [setK' (n := st.length) (by simp) 2]
  change Ex _ _ (st.set 0 (.tab [defPos 7]) ++ [Cell.cell (some (.loc lw)), Cell.cell (some (.loc ln)), Cell.cell (some (PV.loc (st.length + 24))), Cell.cell (some (PV.loc (st.length + 7))), Cell.list [], Cell.list [], Cell.dict (kerE0 st.length ++ [(("out" : Str), PV.loc (st.length + 11)), (("queue" : Str), PV.loc (st.length + 15)), (("events" : Str), PV.loc (st.length + 19)), (("monitors" : Str), PV.loc (st.length + 20)), (("lent" : Str), PV.loc (st.length + 21)), (("back" : Str), PV.loc (st.length + 22))]), Cell.inst thr (st.length + 6), Cell.list [], Cell.list [], Cell.dict [], Cell.list [], Cell.list [], Cell.list [], Cell.dict (thrE (.int 1) (PV.loc (st.length + 12)) (.int 0) (PV.loc (st.length + 13)) (.str "top") (st.length + 14)), Cell.inst thr (st.length + 14), Cell.list [], Cell.list [], Cell.dict [], Cell.list [], Cell.list [], Cell.list [], Cell.list [], Cell.code "_law_kernel.<locals>._law_get", fnC 7 "_law_get" "_law_kernel.<locals>._law_get" [(("wides" : Str), st.length), (("numbers" : Str), st.length + 1)] (st.length + 23)]) _ _
  have m7 : (st.set 0 (.tab [defPos 7]) ++ [Cell.cell (some (.loc lw)), Cell.cell (some (.loc ln)), Cell.cell (some (PV.loc (st.length + 24))), Cell.cell (some (PV.loc (st.length + 7))), Cell.list [], Cell.list [], Cell.dict (kerE0 st.length ++ [(("out" : Str), PV.loc (st.length + 11)), (("queue" : Str), PV.loc (st.length + 15)), (("events" : Str), PV.loc (st.length + 19)), (("monitors" : Str), PV.loc (st.length + 20)), (("lent" : Str), PV.loc (st.length + 21)), (("back" : Str), PV.loc (st.length + 22))]), Cell.inst thr (st.length + 6), Cell.list [], Cell.list [], Cell.dict [], Cell.list [], Cell.list [], Cell.list [], Cell.dict (thrE (.int 1) (PV.loc (st.length + 12)) (.int 0) (PV.loc (st.length + 13)) (.str "top") (st.length + 14)), Cell.inst thr (st.length + 14), Cell.list [], Cell.list [], Cell.dict [], Cell.list [], Cell.list [], Cell.list [], Cell.list [], Cell.code "_law_kernel.<locals>._law_get", fnC 7 "_law_get" "_law_kernel.<locals>._law_get" [(("wides" : Str), st.length), (("numbers" : Str), st.length + 1)] (st.length + 23)]).length = st.length + 25 := by simp
  refine ex_def (cs := [(("kernel" : Str), st.length + 3), (("_law_get" : Str), st.length + 2)]) "_law_kernel.<locals>._law_context" 0 (closOf_cons (a := L + 4) 3 rfl rfl (closOf_cons (a := L + 3) 2 rfl rfl closOf_nil)) (gL (by rw [List.getElem?_set_self hst])) (by intro q hq; simp only [List.mem_cons, List.not_mem_nil, or_false] at hq; rcases hq with rfl <;> decide +kernel) ?_
  rw [m7, List.set_append_left 0 _ (by first | exact Nat.lt_of_lt_of_le hst (by first | exact Nat.le_refl _ | (rw [List.length_set]; exact Nat.le_refl _))), List.set_set, appL]
  change Ex _ _ (st.set 0 (.tab [defPos 8, defPos 7]) ++ [Cell.cell (some (.loc lw)), Cell.cell (some (.loc ln)), Cell.cell (some (PV.loc (st.length + 24))), Cell.cell (some (PV.loc (st.length + 7))), Cell.list [], Cell.list [], Cell.dict (kerE0 st.length ++ [(("out" : Str), PV.loc (st.length + 11)), (("queue" : Str), PV.loc (st.length + 15)), (("events" : Str), PV.loc (st.length + 19)), (("monitors" : Str), PV.loc (st.length + 20)), (("lent" : Str), PV.loc (st.length + 21)), (("back" : Str), PV.loc (st.length + 22))]), Cell.inst thr (st.length + 6), Cell.list [], Cell.list [], Cell.dict [], Cell.list [], Cell.list [], Cell.list [], Cell.dict (thrE (.int 1) (PV.loc (st.length + 12)) (.int 0) (PV.loc (st.length + 13)) (.str "top") (st.length + 14)), Cell.inst thr (st.length + 14), Cell.list [], Cell.list [], Cell.dict [], Cell.list [], Cell.list [], Cell.list [], Cell.list [], Cell.code "_law_kernel.<locals>._law_get", fnC 7 "_law_get" "_law_kernel.<locals>._law_get" [(("wides" : Str), st.length), (("numbers" : Str), st.length + 1)] (st.length + 23), Cell.code "_law_kernel.<locals>._law_context", fnC 8 "_law_context" "_law_kernel.<locals>._law_context" [(("kernel" : Str), st.length + 3), (("_law_get" : Str), st.length + 2)] (st.length + 25)]) _ _
  have m8 : (st.set 0 (.tab [defPos 8, defPos 7]) ++ [Cell.cell (some (.loc lw)), Cell.cell (some (.loc ln)), Cell.cell (some (PV.loc (st.length + 24))), Cell.cell (some (PV.loc (st.length + 7))), Cell.list [], Cell.list [], Cell.dict (kerE0 st.length ++ [(("out" : Str), PV.loc (st.length + 11)), (("queue" : Str), PV.loc (st.length + 15)), (("events" : Str), PV.loc (st.length + 19)), (("monitors" : Str), PV.loc (st.length + 20)), (("lent" : Str), PV.loc (st.length + 21)), (("back" : Str), PV.loc (st.length + 22))]), Cell.inst thr (st.length + 6), Cell.list [], Cell.list [], Cell.dict [], Cell.list [], Cell.list [], Cell.list [], Cell.dict (thrE (.int 1) (PV.loc (st.length + 12)) (.int 0) (PV.loc (st.length + 13)) (.str "top") (st.length + 14)), Cell.inst thr (st.length + 14), Cell.list [], Cell.list [], Cell.dict [], Cell.list [], Cell.list [], Cell.list [], Cell.list [], Cell.code "_law_kernel.<locals>._law_get", fnC 7 "_law_get" "_law_kernel.<locals>._law_get" [(("wides" : Str), st.length), (("numbers" : Str), st.length + 1)] (st.length + 23), Cell.code "_law_kernel.<locals>._law_context", fnC 8 "_law_context" "_law_kernel.<locals>._law_context" [(("kernel" : Str), st.length + 3), (("_law_get" : Str), st.length + 2)] (st.length + 25)]).length = st.length + 27 := by simp
  refine ex_def (cs := [(("kernel" : Str), st.length + 3)]) "_law_kernel.<locals>._law_back" 1 (closOf_cons (a := L + 4) 3 rfl rfl closOf_nil) (gL (by rw [List.getElem?_set_self hst])) (by intro q hq; simp only [List.mem_cons, List.not_mem_nil, or_false] at hq; rcases hq with rfl | rfl <;> decide +kernel) ?_
  rw [m8, List.set_append_left 0 _ (by first | exact Nat.lt_of_lt_of_le hst (by first | exact Nat.le_refl _ | (rw [List.length_set]; exact Nat.le_refl _))), List.set_set, appL]
  change Ex _ _ (st.set 0 (.tab [defPos 9, defPos 8, defPos 7]) ++ [Cell.cell (some (.loc lw)), Cell.cell (some (.loc ln)), Cell.cell (some (PV.loc (st.length + 24))), Cell.cell (some (PV.loc (st.length + 7))), Cell.list [], Cell.list [], Cell.dict (kerE0 st.length ++ [(("out" : Str), PV.loc (st.length + 11)), (("queue" : Str), PV.loc (st.length + 15)), (("events" : Str), PV.loc (st.length + 19)), (("monitors" : Str), PV.loc (st.length + 20)), (("lent" : Str), PV.loc (st.length + 21)), (("back" : Str), PV.loc (st.length + 22))]), Cell.inst thr (st.length + 6), Cell.list [], Cell.list [], Cell.dict [], Cell.list [], Cell.list [], Cell.list [], Cell.dict (thrE (.int 1) (PV.loc (st.length + 12)) (.int 0) (PV.loc (st.length + 13)) (.str "top") (st.length + 14)), Cell.inst thr (st.length + 14), Cell.list [], Cell.list [], Cell.dict [], Cell.list [], Cell.list [], Cell.list [], Cell.list [], Cell.code "_law_kernel.<locals>._law_get", fnC 7 "_law_get" "_law_kernel.<locals>._law_get" [(("wides" : Str), st.length), (("numbers" : Str), st.length + 1)] (st.length + 23), Cell.code "_law_kernel.<locals>._law_context", fnC 8 "_law_context" "_law_kernel.<locals>._law_context" [(("kernel" : Str), st.length + 3), (("_law_get" : Str), st.length + 2)] (st.length + 25), Cell.code "_law_kernel.<locals>._law_back", fnC 9 "_law_back" "_law_kernel.<locals>._law_back" [(("kernel" : Str), st.length + 3)] (st.length + 27)]) _ _
  have m9 : (st.set 0 (.tab [defPos 9, defPos 8, defPos 7]) ++ [Cell.cell (some (.loc lw)), Cell.cell (some (.loc ln)), Cell.cell (some (PV.loc (st.length + 24))), Cell.cell (some (PV.loc (st.length + 7))), Cell.list [], Cell.list [], Cell.dict (kerE0 st.length ++ [(("out" : Str), PV.loc (st.length + 11)), (("queue" : Str), PV.loc (st.length + 15)), (("events" : Str), PV.loc (st.length + 19)), (("monitors" : Str), PV.loc (st.length + 20)), (("lent" : Str), PV.loc (st.length + 21)), (("back" : Str), PV.loc (st.length + 22))]), Cell.inst thr (st.length + 6), Cell.list [], Cell.list [], Cell.dict [], Cell.list [], Cell.list [], Cell.list [], Cell.dict (thrE (.int 1) (PV.loc (st.length + 12)) (.int 0) (PV.loc (st.length + 13)) (.str "top") (st.length + 14)), Cell.inst thr (st.length + 14), Cell.list [], Cell.list [], Cell.dict [], Cell.list [], Cell.list [], Cell.list [], Cell.list [], Cell.code "_law_kernel.<locals>._law_get", fnC 7 "_law_get" "_law_kernel.<locals>._law_get" [(("wides" : Str), st.length), (("numbers" : Str), st.length + 1)] (st.length + 23), Cell.code "_law_kernel.<locals>._law_context", fnC 8 "_law_context" "_law_kernel.<locals>._law_context" [(("kernel" : Str), st.length + 3), (("_law_get" : Str), st.length + 2)] (st.length + 25), Cell.code "_law_kernel.<locals>._law_back", fnC 9 "_law_back" "_law_kernel.<locals>._law_back" [(("kernel" : Str), st.length + 3)] (st.length + 27)]).length = st.length + 29 := by simp
  refine ex_def (cs := [(("kernel" : Str), st.length + 3)]) "_law_kernel.<locals>._law_late" 2 (closOf_cons (a := L + 4) 3 rfl rfl closOf_nil) (gL (by rw [List.getElem?_set_self hst])) (by intro q hq; simp only [List.mem_cons, List.not_mem_nil, or_false] at hq; rcases hq with rfl | rfl | rfl <;> decide +kernel) ?_
  rw [m9, List.set_append_left 0 _ (by first | exact Nat.lt_of_lt_of_le hst (by first | exact Nat.le_refl _ | (rw [List.length_set]; exact Nat.le_refl _))), List.set_set, appL]
  change Ex _ _ (st.set 0 (.tab [defPos 10, defPos 9, defPos 8, defPos 7]) ++ [Cell.cell (some (.loc lw)), Cell.cell (some (.loc ln)), Cell.cell (some (PV.loc (st.length + 24))), Cell.cell (some (PV.loc (st.length + 7))), Cell.list [], Cell.list [], Cell.dict (kerE0 st.length ++ [(("out" : Str), PV.loc (st.length + 11)), (("queue" : Str), PV.loc (st.length + 15)), (("events" : Str), PV.loc (st.length + 19)), (("monitors" : Str), PV.loc (st.length + 20)), (("lent" : Str), PV.loc (st.length + 21)), (("back" : Str), PV.loc (st.length + 22))]), Cell.inst thr (st.length + 6), Cell.list [], Cell.list [], Cell.dict [], Cell.list [], Cell.list [], Cell.list [], Cell.dict (thrE (.int 1) (PV.loc (st.length + 12)) (.int 0) (PV.loc (st.length + 13)) (.str "top") (st.length + 14)), Cell.inst thr (st.length + 14), Cell.list [], Cell.list [], Cell.dict [], Cell.list [], Cell.list [], Cell.list [], Cell.list [], Cell.code "_law_kernel.<locals>._law_get", fnC 7 "_law_get" "_law_kernel.<locals>._law_get" [(("wides" : Str), st.length), (("numbers" : Str), st.length + 1)] (st.length + 23), Cell.code "_law_kernel.<locals>._law_context", fnC 8 "_law_context" "_law_kernel.<locals>._law_context" [(("kernel" : Str), st.length + 3), (("_law_get" : Str), st.length + 2)] (st.length + 25), Cell.code "_law_kernel.<locals>._law_back", fnC 9 "_law_back" "_law_kernel.<locals>._law_back" [(("kernel" : Str), st.length + 3)] (st.length + 27), Cell.code "_law_kernel.<locals>._law_late", fnC 10 "_law_late" "_law_kernel.<locals>._law_late" [(("kernel" : Str), st.length + 3)] (st.length + 29)]) _ _
  have m10 : (st.set 0 (.tab [defPos 10, defPos 9, defPos 8, defPos 7]) ++ [Cell.cell (some (.loc lw)), Cell.cell (some (.loc ln)), Cell.cell (some (PV.loc (st.length + 24))), Cell.cell (some (PV.loc (st.length + 7))), Cell.list [], Cell.list [], Cell.dict (kerE0 st.length ++ [(("out" : Str), PV.loc (st.length + 11)), (("queue" : Str), PV.loc (st.length + 15)), (("events" : Str), PV.loc (st.length + 19)), (("monitors" : Str), PV.loc (st.length + 20)), (("lent" : Str), PV.loc (st.length + 21)), (("back" : Str), PV.loc (st.length + 22))]), Cell.inst thr (st.length + 6), Cell.list [], Cell.list [], Cell.dict [], Cell.list [], Cell.list [], Cell.list [], Cell.dict (thrE (.int 1) (PV.loc (st.length + 12)) (.int 0) (PV.loc (st.length + 13)) (.str "top") (st.length + 14)), Cell.inst thr (st.length + 14), Cell.list [], Cell.list [], Cell.dict [], Cell.list [], Cell.list [], Cell.list [], Cell.list [], Cell.code "_law_kernel.<locals>._law_get", fnC 7 "_law_get" "_law_kernel.<locals>._law_get" [(("wides" : Str), st.length), (("numbers" : Str), st.length + 1)] (st.length + 23), Cell.code "_law_kernel.<locals>._law_context", fnC 8 "_law_context" "_law_kernel.<locals>._law_context" [(("kernel" : Str), st.length + 3), (("_law_get" : Str), st.length + 2)] (st.length + 25), Cell.code "_law_kernel.<locals>._law_back", fnC 9 "_law_back" "_law_kernel.<locals>._law_back" [(("kernel" : Str), st.length + 3)] (st.length + 27), Cell.code "_law_kernel.<locals>._law_late", fnC 10 "_law_late" "_law_kernel.<locals>._law_late" [(("kernel" : Str), st.length + 3)] (st.length + 29)]).length = st.length + 31 := by simp
  refine ex_def (cs := [(("kernel" : Str), st.length + 3)]) "_law_kernel.<locals>._law_monitor" 3 (closOf_cons (a := L + 4) 3 rfl rfl closOf_nil) (gL (by rw [List.getElem?_set_self hst])) (by intro q hq; simp only [List.mem_cons, List.not_mem_nil, or_false] at hq; rcases hq with rfl | rfl | rfl | rfl <;> decide +kernel) ?_
  rw [m10, List.set_append_left 0 _ (by first | exact Nat.lt_of_lt_of_le hst (by first | exact Nat.le_refl _ | (rw [List.length_set]; exact Nat.le_refl _))), List.set_set, appL]
  change Ex _ _ (st.set 0 (.tab [defPos 11, defPos 10, defPos 9, defPos 8, defPos 7]) ++ [Cell.cell (some (.loc lw)), Cell.cell (some (.loc ln)), Cell.cell (some (PV.loc (st.length + 24))), Cell.cell (some (PV.loc (st.length + 7))), Cell.list [], Cell.list [], Cell.dict (kerE0 st.length ++ [(("out" : Str), PV.loc (st.length + 11)), (("queue" : Str), PV.loc (st.length + 15)), (("events" : Str), PV.loc (st.length + 19)), (("monitors" : Str), PV.loc (st.length + 20)), (("lent" : Str), PV.loc (st.length + 21)), (("back" : Str), PV.loc (st.length + 22))]), Cell.inst thr (st.length + 6), Cell.list [], Cell.list [], Cell.dict [], Cell.list [], Cell.list [], Cell.list [], Cell.dict (thrE (.int 1) (PV.loc (st.length + 12)) (.int 0) (PV.loc (st.length + 13)) (.str "top") (st.length + 14)), Cell.inst thr (st.length + 14), Cell.list [], Cell.list [], Cell.dict [], Cell.list [], Cell.list [], Cell.list [], Cell.list [], Cell.code "_law_kernel.<locals>._law_get", fnC 7 "_law_get" "_law_kernel.<locals>._law_get" [(("wides" : Str), st.length), (("numbers" : Str), st.length + 1)] (st.length + 23), Cell.code "_law_kernel.<locals>._law_context", fnC 8 "_law_context" "_law_kernel.<locals>._law_context" [(("kernel" : Str), st.length + 3), (("_law_get" : Str), st.length + 2)] (st.length + 25), Cell.code "_law_kernel.<locals>._law_back", fnC 9 "_law_back" "_law_kernel.<locals>._law_back" [(("kernel" : Str), st.length + 3)] (st.length + 27), Cell.code "_law_kernel.<locals>._law_late", fnC 10 "_law_late" "_law_kernel.<locals>._law_late" [(("kernel" : Str), st.length + 3)] (st.length + 29), Cell.code "_law_kernel.<locals>._law_monitor", fnC 11 "_law_monitor" "_law_kernel.<locals>._law_monitor" [(("kernel" : Str), st.length + 3)] (st.length + 31)]) _ _
  refine ex_setnew (i := st.length + 7) (j := st.length + 6) (es := (kerE0 st.length ++ [(("out" : Str), PV.loc (st.length + 11)), (("queue" : Str), PV.loc (st.length + 15)), (("events" : Str), PV.loc (st.length + 19)), (("monitors" : Str), PV.loc (st.length + 20)), (("lent" : Str), PV.loc (st.length + 21)), (("back" : Str), PV.loc (st.length + 22))])) (ev_name 0) (ev_cname 3 rfl (gK' (by simp) 3 rfl)) (gK' (by simp) 7 rfl) (gK' (by simp) 6 rfl) ?_
  rw [setK' (n := st.length) (by simp) 6]
  change Ex _ _ (st.set 0 (.tab [defPos 11, defPos 10, defPos 9, defPos 8, defPos 7]) ++ [Cell.cell (some (.loc lw)), Cell.cell (some (.loc ln)), Cell.cell (some (PV.loc (st.length + 24))), Cell.cell (some (PV.loc (st.length + 7))), Cell.list [], Cell.list [], Cell.dict (kerE0 st.length ++ [(("out" : Str), PV.loc (st.length + 11)), (("queue" : Str), PV.loc (st.length + 15)), (("events" : Str), PV.loc (st.length + 19)), (("monitors" : Str), PV.loc (st.length + 20)), (("lent" : Str), PV.loc (st.length + 21)), (("back" : Str), PV.loc (st.length + 22)), (("context" : Str), PV.loc (st.length + 26))]), Cell.inst thr (st.length + 6), Cell.list [], Cell.list [], Cell.dict [], Cell.list [], Cell.list [], Cell.list [], Cell.dict (thrE (.int 1) (PV.loc (st.length + 12)) (.int 0) (PV.loc (st.length + 13)) (.str "top") (st.length + 14)), Cell.inst thr (st.length + 14), Cell.list [], Cell.list [], Cell.dict [], Cell.list [], Cell.list [], Cell.list [], Cell.list [], Cell.code "_law_kernel.<locals>._law_get", fnC 7 "_law_get" "_law_kernel.<locals>._law_get" [(("wides" : Str), st.length), (("numbers" : Str), st.length + 1)] (st.length + 23), Cell.code "_law_kernel.<locals>._law_context", fnC 8 "_law_context" "_law_kernel.<locals>._law_context" [(("kernel" : Str), st.length + 3), (("_law_get" : Str), st.length + 2)] (st.length + 25), Cell.code "_law_kernel.<locals>._law_back", fnC 9 "_law_back" "_law_kernel.<locals>._law_back" [(("kernel" : Str), st.length + 3)] (st.length + 27), Cell.code "_law_kernel.<locals>._law_late", fnC 10 "_law_late" "_law_kernel.<locals>._law_late" [(("kernel" : Str), st.length + 3)] (st.length + 29), Cell.code "_law_kernel.<locals>._law_monitor", fnC 11 "_law_monitor" "_law_kernel.<locals>._law_monitor" [(("kernel" : Str), st.length + 3)] (st.length + 31)]) _ _
  refine ex_setnew (i := st.length + 7) (j := st.length + 6) (es := (kerE0 st.length ++ [(("out" : Str), PV.loc (st.length + 11)), (("queue" : Str), PV.loc (st.length + 15)), (("events" : Str), PV.loc (st.length + 19)), (("monitors" : Str), PV.loc (st.length + 20)), (("lent" : Str), PV.loc (st.length + 21)), (("back" : Str), PV.loc (st.length + 22)), (("context" : Str), PV.loc (st.length + 26))])) (ev_name 1) (ev_cname 3 rfl (gK' (by simp) 3 rfl)) (gK' (by simp) 7 rfl) (gK' (by simp) 6 rfl) ?_
  rw [setK' (n := st.length) (by simp) 6]
  change Ex _ _ (st.set 0 (.tab [defPos 11, defPos 10, defPos 9, defPos 8, defPos 7]) ++ [Cell.cell (some (.loc lw)), Cell.cell (some (.loc ln)), Cell.cell (some (PV.loc (st.length + 24))), Cell.cell (some (PV.loc (st.length + 7))), Cell.list [], Cell.list [], Cell.dict (kerE0 st.length ++ [(("out" : Str), PV.loc (st.length + 11)), (("queue" : Str), PV.loc (st.length + 15)), (("events" : Str), PV.loc (st.length + 19)), (("monitors" : Str), PV.loc (st.length + 20)), (("lent" : Str), PV.loc (st.length + 21)), (("back" : Str), PV.loc (st.length + 22)), (("context" : Str), PV.loc (st.length + 26)), (("close_context" : Str), PV.loc (st.length + 28))]), Cell.inst thr (st.length + 6), Cell.list [], Cell.list [], Cell.dict [], Cell.list [], Cell.list [], Cell.list [], Cell.dict (thrE (.int 1) (PV.loc (st.length + 12)) (.int 0) (PV.loc (st.length + 13)) (.str "top") (st.length + 14)), Cell.inst thr (st.length + 14), Cell.list [], Cell.list [], Cell.dict [], Cell.list [], Cell.list [], Cell.list [], Cell.list [], Cell.code "_law_kernel.<locals>._law_get", fnC 7 "_law_get" "_law_kernel.<locals>._law_get" [(("wides" : Str), st.length), (("numbers" : Str), st.length + 1)] (st.length + 23), Cell.code "_law_kernel.<locals>._law_context", fnC 8 "_law_context" "_law_kernel.<locals>._law_context" [(("kernel" : Str), st.length + 3), (("_law_get" : Str), st.length + 2)] (st.length + 25), Cell.code "_law_kernel.<locals>._law_back", fnC 9 "_law_back" "_law_kernel.<locals>._law_back" [(("kernel" : Str), st.length + 3)] (st.length + 27), Cell.code "_law_kernel.<locals>._law_late", fnC 10 "_law_late" "_law_kernel.<locals>._law_late" [(("kernel" : Str), st.length + 3)] (st.length + 29), Cell.code "_law_kernel.<locals>._law_monitor", fnC 11 "_law_monitor" "_law_kernel.<locals>._law_monitor" [(("kernel" : Str), st.length + 3)] (st.length + 31)]) _ _
  refine ex_setnew (i := st.length + 15) (j := st.length + 14) (es := (thrE (.int 1) (PV.loc (st.length + 12)) (.int 0) (PV.loc (st.length + 13)) (.str "top") (st.length + 14))) (ev_name 2) (ev_attr (i := st.length + 7) (j := st.length + 6) (es := (kerE0 st.length ++ [(("out" : Str), PV.loc (st.length + 11)), (("queue" : Str), PV.loc (st.length + 15)), (("events" : Str), PV.loc (st.length + 19)), (("monitors" : Str), PV.loc (st.length + 20)), (("lent" : Str), PV.loc (st.length + 21)), (("back" : Str), PV.loc (st.length + 22)), (("context" : Str), PV.loc (st.length + 26)), (("close_context" : Str), PV.loc (st.length + 28))])) (ev_cname 3 rfl (gK' (by simp) 3 rfl)) (gK' (by simp) 7 rfl) (gK' (by simp) 6 rfl) rfl (fun v e => by cases e)) (gK' (by simp) 15 rfl) (gK' (by simp) 14 rfl) ?_
  rw [setK' (n := st.length) (by simp) 14]
  change Ex _ _ (st.set 0 (.tab [defPos 11, defPos 10, defPos 9, defPos 8, defPos 7]) ++ [Cell.cell (some (.loc lw)), Cell.cell (some (.loc ln)), Cell.cell (some (PV.loc (st.length + 24))), Cell.cell (some (PV.loc (st.length + 7))), Cell.list [], Cell.list [], Cell.dict (kerE0 st.length ++ [(("out" : Str), PV.loc (st.length + 11)), (("queue" : Str), PV.loc (st.length + 15)), (("events" : Str), PV.loc (st.length + 19)), (("monitors" : Str), PV.loc (st.length + 20)), (("lent" : Str), PV.loc (st.length + 21)), (("back" : Str), PV.loc (st.length + 22)), (("context" : Str), PV.loc (st.length + 26)), (("close_context" : Str), PV.loc (st.length + 28))]), Cell.inst thr (st.length + 6), Cell.list [], Cell.list [], Cell.dict [], Cell.list [], Cell.list [], Cell.list [], Cell.dict (thrE (.int 1) (PV.loc (st.length + 12)) (.int 0) (PV.loc (st.length + 13)) (.str "top") (st.length + 14) ++ [(("add" : Str), PV.loc (st.length + 30))]), Cell.inst thr (st.length + 14), Cell.list [], Cell.list [], Cell.dict [], Cell.list [], Cell.list [], Cell.list [], Cell.list [], Cell.code "_law_kernel.<locals>._law_get", fnC 7 "_law_get" "_law_kernel.<locals>._law_get" [(("wides" : Str), st.length), (("numbers" : Str), st.length + 1)] (st.length + 23), Cell.code "_law_kernel.<locals>._law_context", fnC 8 "_law_context" "_law_kernel.<locals>._law_context" [(("kernel" : Str), st.length + 3), (("_law_get" : Str), st.length + 2)] (st.length + 25), Cell.code "_law_kernel.<locals>._law_back", fnC 9 "_law_back" "_law_kernel.<locals>._law_back" [(("kernel" : Str), st.length + 3)] (st.length + 27), Cell.code "_law_kernel.<locals>._law_late", fnC 10 "_law_late" "_law_kernel.<locals>._law_late" [(("kernel" : Str), st.length + 3)] (st.length + 29), Cell.code "_law_kernel.<locals>._law_monitor", fnC 11 "_law_monitor" "_law_kernel.<locals>._law_monitor" [(("kernel" : Str), st.length + 3)] (st.length + 31)]) _ _
  refine ex_setnew (i := st.length + 7) (j := st.length + 6) (es := (kerE0 st.length ++ [(("out" : Str), PV.loc (st.length + 11)), (("queue" : Str), PV.loc (st.length + 15)), (("events" : Str), PV.loc (st.length + 19)), (("monitors" : Str), PV.loc (st.length + 20)), (("lent" : Str), PV.loc (st.length + 21)), (("back" : Str), PV.loc (st.length + 22)), (("context" : Str), PV.loc (st.length + 26)), (("close_context" : Str), PV.loc (st.length + 28))])) (ev_name 3) (ev_cname 3 rfl (gK' (by simp) 3 rfl)) (gK' (by simp) 7 rfl) (gK' (by simp) 6 rfl) ?_
  rw [setK' (n := st.length) (by simp) 6]
  change Ex _ _ (st.set 0 (.tab [defPos 11, defPos 10, defPos 9, defPos 8, defPos 7]) ++ [Cell.cell (some (.loc lw)), Cell.cell (some (.loc ln)), Cell.cell (some (PV.loc (st.length + 24))), Cell.cell (some (PV.loc (st.length + 7))), Cell.list [], Cell.list [], Cell.dict (kerE0 st.length ++ [(("out" : Str), PV.loc (st.length + 11)), (("queue" : Str), PV.loc (st.length + 15)), (("events" : Str), PV.loc (st.length + 19)), (("monitors" : Str), PV.loc (st.length + 20)), (("lent" : Str), PV.loc (st.length + 21)), (("back" : Str), PV.loc (st.length + 22)), (("context" : Str), PV.loc (st.length + 26)), (("close_context" : Str), PV.loc (st.length + 28)), (("set_monitor" : Str), PV.loc (st.length + 32))]), Cell.inst thr (st.length + 6), Cell.list [], Cell.list [], Cell.dict [], Cell.list [], Cell.list [], Cell.list [], Cell.dict (thrE (.int 1) (PV.loc (st.length + 12)) (.int 0) (PV.loc (st.length + 13)) (.str "top") (st.length + 14) ++ [(("add" : Str), PV.loc (st.length + 30))]), Cell.inst thr (st.length + 14), Cell.list [], Cell.list [], Cell.dict [], Cell.list [], Cell.list [], Cell.list [], Cell.list [], Cell.code "_law_kernel.<locals>._law_get", fnC 7 "_law_get" "_law_kernel.<locals>._law_get" [(("wides" : Str), st.length), (("numbers" : Str), st.length + 1)] (st.length + 23), Cell.code "_law_kernel.<locals>._law_context", fnC 8 "_law_context" "_law_kernel.<locals>._law_context" [(("kernel" : Str), st.length + 3), (("_law_get" : Str), st.length + 2)] (st.length + 25), Cell.code "_law_kernel.<locals>._law_back", fnC 9 "_law_back" "_law_kernel.<locals>._law_back" [(("kernel" : Str), st.length + 3)] (st.length + 27), Cell.code "_law_kernel.<locals>._law_late", fnC 10 "_law_late" "_law_kernel.<locals>._law_late" [(("kernel" : Str), st.length + 3)] (st.length + 29), Cell.code "_law_kernel.<locals>._law_monitor", fnC 11 "_law_monitor" "_law_kernel.<locals>._law_monitor" [(("kernel" : Str), st.length + 3)] (st.length + 31)]) _ _
  exact ex_ret (ev_cname 3 rfl (gK' (by simp) 3 rfl)) ⟨rfl, rfl⟩
end
end Mine
end
section
open PySem PySem.W PySem.Calls PyProof.Rows PySem.Builtin.Str
set_option Elab.async false
set_option autoImplicit false
set_option linter.all false
set_option maxRecDepth 100000
namespace Mine
/-- a for over a list in the store, by an invariant -/
theorem fol_inv {C : Cx} {lo : List (Option PV)} {st : List Cell} {K : Out → Prop} {x : Str} {px : Pos} {body : List Stmt} {xs : List PV} {j : Nat} (i : Nat) (Inv : Nat → List (Option PV) → List Cell → Prop) (hx : C.keys[i]? = some x) (h0 : Inv 0 lo st)
    (hj : ∀ k lo s, Inv k lo s → s[j]? = some (.list xs))
    (step : ∀ k p lo s, xs[k]? = some p → Inv k lo s → Ex C (lo.set i (some p)) s body (fun o => match o with | .next lo' st' => Inv (k + 1) lo' st' | .cont lo' st' => Inv (k + 1) lo' st' | .brk lo' st' => K (.next lo' st') | .ret r s => K (.ret r s)))
    (hend : ∀ lo s, Inv xs.length lo s → K (.next lo s)) : FoL C lo st x px body j 0 K := by
  have key : ∀ (m k : Nat) lo s, k + m = xs.length → Inv k lo s → FoL C lo s x px body j k K := by
    intro m
    induction m with
    | zero => intro k lo s e hI; exact fol_nil (hj _ _ _ hI) (by omega) (hend _ _ (by rw [← e]; exact hI))
    | succ m ih =>
      intro k lo s e hI
      have hk := List.getElem?_eq_getElem (l := xs) (i := k) (by omega)
      refine fol_step i hx (hj _ _ _ hI) hk ((step k _ lo s hk hI).mono fun o ko => ?_)
      cases o with
      | next lo' st' => exact ih (k + 1) lo' st' (by omega) ko
      | cont lo' st' => exact ih (k + 1) lo' st' (by omega) ko
      | brk _ _ => exact ko
      | ret _ _ => exact ko
  exact key xs.length 0 lo st (by omega) h0
/-- the kernel stands at n -/
noncomputable def KS (pre post : List Cell) (n lw ln : Nat) (out ev mon lent back : List PV) : List Cell := pre ++ (kerCells n lw ln out ev mon lent back ++ post)
section
variable {pre post g : List Cell} {n lw ln : Nat} {out ev mon lent back : List PV}
theorem KS_len (hn : pre.length = n) : (KS pre post n lw ln out ev mon lent back).length = n + 33 + post.length := by
  unfold KS; rw [List.length_append, List.length_append, hn, show (kerCells n lw ln out ev mon lent back).length = 33 from rfl]; omega
theorem KS_app : KS pre post n lw ln out ev mon lent back ++ g = KS pre (post ++ g) n lw ln out ev mon lent back := by
  unfold KS; rw [List.append_assoc, List.append_assoc]
theorem KS_get (hn : pre.length = n) (k : Nat) {c : Cell} (h : (kerCells n lw ln out ev mon lent back ++ post)[k]? = some c) : (KS pre post n lw ln out ev mon lent back)[n + k]? = some c := gK' hn k h
theorem KS_pre {j : Nat} {c : Cell} (h : pre[j]? = some c) : (KS pre post n lw ln out ev mon lent back)[j]? = some c := gL h
theorem KS_set (hn : pre.length = n) (k : Nat) {c : Cell} : (KS pre post n lw ln out ev mon lent back).set (n + k) c = pre ++ (kerCells n lw ln out ev mon lent back ++ post).set k c := setK' hn k
end
noncomputable def Gi.ar (ws ns : List Nat) : Gi → Ar
  | .e i _ sg => .num (ws.getD i 0) (ns.getD i 0) sg
  | .non => .non
  | .txt k => .txt k
noncomputable def Gi.ok : Gi → Prop
  | .e i _ _ => i < 3
  | _ => True
/-- the widths and numbers of the signals -/
structure Sg (ws ns : List Nat) : Prop where
  lw : ws.length = 3
  ln : ns.length = 3
  ok : ∀ (i w a : Nat), ws[i]? = some w → ns[i]? = some a → 1 ≤ w ∧ w ≤ 9 ∧ a < 2 ^ w
theorem Sg.at {ws ns : List Nat} (h : Sg ws ns) {i : Nat} (hi : i < 3) : ∃ w a, ws[i]? = some w ∧ ns[i]? = some a ∧ ws.getD i 0 = w ∧ ns.getD i 0 = a ∧ 1 ≤ w ∧ w ≤ 9 ∧ a < 2 ^ w := by
  have e1 := List.getElem?_eq_getElem (l := ws) (i := i) (by rw [h.lw]; exact hi)
  have e2 := List.getElem?_eq_getElem (l := ns) (i := i) (by rw [h.ln]; exact hi)
  exact ⟨_, _, e1, e2, by rw [List.getD_eq_getElem?_getD, e1]; rfl, by rw [List.getD_eq_getElem?_getD, e2]; rfl, h.ok i _ _ e1 e2⟩
theorem Gi.arok {ws ns : List Nat} (h : Sg ws ns) : ∀ {g : Gi}, g.ok → (g.ar ws ns).ok
  | .non, _ => trivial
  | .txt _, _ => trivial
  | .e i w sg, hi => by
    obtain ⟨w, a, _, _, e1, e2, h1, h2, h3⟩ := h.at hi
    show 1 ≤ _ ∧ _ ∧ _
    rw [e1, e2]; exact ⟨h1, by omega, h3⟩
section
variable {P : Pg} {lv : Nat} {pre post : List Cell} {n lw ln ja it jt : Nat} {out ev mon lent back : List PV} {ws ns : List Nat} {est : List (Str × PV)} {p : Str} {l : List Gi}
theorem KS_getAt (hn : pre.length = n) (h1 : pre[lw]? = some (.list (ws.map fun (w : Nat) => .int w))) (h2 : pre[ln]? = some (.list (ns.map fun (w : Nat) => .int w))) : GetAt (KS pre post n lw ln out ev mon lent back) (n + 24) ws ns :=
  ⟨⟨n + 23, n + 0, n + 1, lw, ln, KS_get hn 24 rfl, KS_get hn 23 rfl, KS_get hn 0 rfl, KS_get hn 1 rfl, KS_pre h1, KS_pre h2⟩⟩
theorem arg_values_cl (hn : pre.length = n) (hw : pre[lw]? = some (.list (ws.map fun (w : Nat) => .int w))) (hln : pre[ln]? = some (.list (ns.map fun (w : Nat) => .int w))) (sg : Sg ws ns)
    (hja : (KS pre post n lw ln out ev mon lent back)[ja]? = some (.list (l.map Gi.pv))) (hja0 : ja < n ∨ n + 33 ≤ ja) (hl : l.length ≤ 100) (hok : ∀ g ∈ l, g.ok)
    (hit : (KS pre post n lw ln out ev mon lent back)[it]? = some (.inst thr jt)) (hjt : (KS pre post n lw ln out ev mon lent back)[jt]? = some (.dict est)) (hp : dfind "path" est = some (.str p)) (hz1 : lent.length < 1000) (hz2 : back.length < 1000) :
    ∃ g, Cl P tabs (lv + 4) (.ref 634) [.loc (n + 7), .loc ja, .loc it] (KS pre post n lw ln out ev mon lent back) (.loc (n + 33 + post.length + 14))
      (KS pre post n lw ln out ev mon (lent ++ [.int (lent.length : Nat)]) (back ++ [.int (lent.length : Nat)]) ++ g) ∧ 
      (KS pre post n lw ln out ev mon (lent ++ [.int (lent.length : Nat)]) (back ++ [.int (lent.length : Nat)]) ++ g)[n + 33 + post.length + 14]? = some (.list (l.map fun g => (g.ar ws ns).av.pv)) := by
  generalize hN : n + 33 + post.length = N
  have len := fun a b => KS_len (post := post) (lw := lw) (ln := ln) (out := out) (ev := ev) (mon := mon) (lent := a) (back := b) hn
  refine ⟨ctxCells N (.int (lent.length : Nat)) (.str p) (n + 24) ++ [.list (l.map fun g => (g.ar ws ns).av.pv)], cl_def ok_arg_values (k := 22) rfl rfl fun A L => ?_, ?_⟩
  · conv => arg 4; whnf
    refine ex_assign 3 (ev_methown (lv := lv + 3) (ev_name 0) (KS_get hn 7 rfl) (KS_get hn 6 rfl) rfl (evs_cons (ev_name 2) evs_nil) (KS_get hn 26 rfl)
      (context_cl (lv := lv) (KS_get hn 26 rfl) (KS_get hn 25 rfl) (KS_get hn 3 rfl) (KS_get hn 2 rfl) (KS_get hn 7 rfl) (KS_get hn 6 rfl) rfl (KS_get hn 21 rfl) hz1 hit hjt hp) (Nat.le_refl _) (KS_get hn 26 rfl)) ?_
    rw [len, hN, KS_set hn 21]
    change Ex _ _ (KS pre post n lw ln out ev mon (lent ++ [.int (lent.length : Nat)]) back ++ ctxCells N (.int (lent.length : Nat)) (.str p) (n + 24)) _ _
    generalize hlent : lent ++ [PV.int (lent.length : Nat)] = lent'
    have l1 : (KS pre post n lw ln out ev mon lent' back ++ ctxCells N (.int (lent.length : Nat)) (.str p) (n + 24)).length = N + 14 := by
      rw [List.length_append, len, hN]; rfl
    refine ex_assign 4 (ev_list evs_nil (by decide)) ?_
    rw [l1]
    have hjb : (KS pre post n lw ln out ev mon lent' back)[ja]? = some (.list (l.map Gi.pv)) := by
      have e : KS pre post n lw ln out ev mon lent' back = (KS pre post n lw ln out ev mon lent back).set (n + 21) (.list lent') := by rw [KS_set hn 21]; rfl
      rw [e, List.getElem?_set_ne (by omega)]; exact hja
    refine ex_forl (xs := l.map Gi.pv) (ev_name 1) (gL (gL hjb)) (fol_inv (xs := l.map Gi.pv) 5 (fun k lo s => (∃ x, lo = [some (.loc (n + 7)), some (.loc ja), some (.loc it), some (.loc (N + 3)), some (.loc (N + 14)), x]) ∧
      s = KS pre post n lw ln out ev mon lent' back ++ ctxCells N (.int (lent.length : Nat)) (.str p) (n + 24) ++ [.list ((l.take k).map fun g => (g.ar ws ns).av.pv)]) rfl ⟨⟨_, rfl⟩, rfl⟩ ?_ ?_ ?_)
    · rintro k _ _ ⟨-, rfl⟩
      exact gL (gL hjb)
    · rintro k p' _ _ hk ⟨⟨x, rfl⟩, rfl⟩
      rw [List.getElem?_map] at hk
      obtain ⟨gi, hgi, rfl⟩ := Option.map_eq_some_iff.mp hk
      have tk : (l.take (k + 1)).map (fun g => (g.ar ws ns).av.pv) = (l.take k).map (fun g => (g.ar ws ns).av.pv) ++ [(gi.ar ws ns).av.pv] := by
        rw [List.take_add_one, hgi]; simp
      have hkl := lt_of_get hgi
      have hz : ((l.take k).map fun g => (g.ar ws ns).av.pv).length < 1000 := by simp; omega
      have hg14 : (KS pre post n lw ln out ev mon lent' back ++ ctxCells N (.int (lent.length : Nat)) (.str p) (n + 24) ++ [Cell.list ((l.take k).map fun g => (g.ar ws ns).av.pv)])[N + 14]? = some (.list ((l.take k).map fun g => (g.ar ws ns).av.pv)) := by
        rw [← l1]; exact gA
      have set14 : ∀ c, (KS pre post n lw ln out ev mon lent' back ++ ctxCells N (.int (lent.length : Nat)) (.str p) (n + 24) ++ [Cell.list ((l.take k).map fun g => (g.ar ws ns).av.pv)]).set (N + 14) c = KS pre post n lw ln out ev mon lent' back ++ ctxCells N (.int (lent.length : Nat)) (.str p) (n + 24) ++ [c] := by
        intro c; rw [← l1]; exact setA
      cases gi with
      | txt kk =>
        refine ex_if_t ((tst_cmp (ev_sub (ev_name 5) ev_int (i_tup (by decide) (by decide) rfl)) ev_str c_eqs).cast (by decide)) ?_
        refine ex_expr (ev_append (ev_name 4) (ev_sub (ev_name 5) ev_int (i_tup (by decide) (by decide) rfl)) hg14 hz ⟨_, hg14⟩) (ex_nil (ex_nil ⟨⟨_, rfl⟩, ?_⟩))
        rw [set14, tk]; rfl
      | e i w0 s0 =>
        refine ex_if_f ((tst_cmp (ev_sub (ev_name 5) ev_int (i_tup (by decide) (by decide) rfl)) ev_str c_eqs).cast (by decide)) ?_
        refine ex_if_t ((tst_cmp (ev_sub (ev_name 5) ev_int (i_tup (by decide) (by decide) rfl)) ev_str c_eqs).cast (by decide)) ?_
        have hi3 : i < 3 := hok _ (List.mem_of_getElem? hgi)
        obtain ⟨w, a, e1, e2, e3, e4, _⟩ := sg.at hi3
        have gc : ∀ (k1 : Nat) {c : Cell}, (ctxCells N (.int (lent.length : Nat)) (.str p) (n + 24))[k1]? = some c → (KS pre post n lw ln out ev mon lent' back ++ ctxCells N (.int (lent.length : Nat)) (.str p) (n + 24) ++ [Cell.list ((l.take k).map fun g => (g.ar ws ns).av.pv)])[N + k1]? = some c := fun k1 c h => gL (gK' (by rw [len, hN]) k1 h)
        refine ex_expr (ev_append (ev_name 4) (ev_tuple (evs_cons (ev_call (k := 28) (lv := lv + 2) (ev_glob 0 28) (evs_cons (ev_sub (ev_name 5) ev_int (i_tup (by decide) (by decide) rfl)) (evs_cons (ev_name 3) evs_nil))
          (evaluate_cl (lv := lv) (gc 3 rfl) (gc 2 rfl) rfl (gc 10 rfl) (gc 9 rfl) rfl (((KS_getAt hn hw hln).grow).grow) e1 e2) (by show lv + 2 ≤ lv + 3; omega) rfl) (evs_cons (ev_sub (ev_name 5) ev_int (i_tup (by decide) (by decide) rfl)) evs_nil)) (Nat.le_of_ble_eq_true rfl)) hg14 hz ⟨_, hg14⟩) (ex_nil (ex_nil (ex_nil ⟨⟨_, rfl⟩, ?_⟩)))
        rw [set14, tk]
        show _ = _ ++ [Cell.list (_ ++ [PV.tup [vec (ws.getD i 0) (ns.getD i 0), .bool s0]])]
        rw [e3, e4]
      | non =>
        refine ex_if_f ((tst_cmp (ev_sub (ev_name 5) ev_int (i_tup (by decide) (by decide) rfl)) ev_str c_eqs).cast (by decide)) ?_
        refine ex_if_f ((tst_cmp (ev_sub (ev_name 5) ev_int (i_tup (by decide) (by decide) rfl)) ev_str c_eqs).cast (by decide)) ?_
        refine ex_expr (ev_append (ev_name 4) ev_none hg14 hz ⟨_, hg14⟩) (ex_nil (ex_nil (ex_nil ⟨⟨_, rfl⟩, ?_⟩)))
        rw [set14, tk]; rfl
    · rintro _ _ ⟨⟨x, rfl⟩, rfl⟩
      rw [List.length_map, List.take_length]
      rw [appL]
      have hi7 : ∀ {g : List Cell} (k1 : Nat) {c : Cell}, (kerCells n lw ln out ev mon lent' back ++ post)[k1]? = some c → (KS pre post n lw ln out ev mon lent' back ++ g)[n + k1]? = some c := fun k1 c h => gL (KS_get hn k1 h)
      refine ex_expr (ev_methown (lv := lv + 1) (ev_name 0) (hi7 7 rfl) (hi7 6 rfl) rfl (evs_cons (ev_name 3) evs_nil) (hi7 28 rfl)
        (back_cl (lv := lv) (ib := 0) (jb := 0) (hi7 28 rfl) (hi7 27 rfl) (hi7 3 rfl) (hi7 7 rfl) (hi7 6 rfl) rfl (hi7 22 rfl) hz2 (gK' (by rw [len, hN]) 3 rfl) (gK' (by rw [len, hN]) 2 rfl) rfl (fun v e => by cases e)) (by show lv + 1 ≤ lv + 3; omega) (hi7 28 rfl)) ?_
      refine ex_ret (ev_name 4) ⟨rfl, ?_⟩
      rw [List.set_append_left _ _ (by rw [len]; omega), KS_set hn 22]; rfl
  · rw [← appL, ← show (KS pre post n lw ln out ev mon (lent ++ [.int (lent.length : Nat)]) (back ++ [.int (lent.length : Nat)]) ++ ctxCells N (.int (lent.length : Nat)) (.str p) (n + 24)).length = N + 14 by rw [List.length_append, len, hN]; rfl]
    exact gA
end
end Mine
end
section
open PySem PySem.W PySem.Calls PyProof.Rows PySem.Builtin.Str
set_option Elab.async false
set_option autoImplicit false
set_option linter.all false
set_option maxRecDepth 100000
namespace Mine
theorem Lows.snoc {n : Nat} : ∀ {l : List PV} {p : PV}, Lows n l → Low n p → Lows n (l ++ [p])
  | _, _, .nil, h => .cons h .nil
  | _, _, .cons a b, h => .cons a (b.snoc h)
theorem low_set {n i : Nat} {c : Cell} {st : List Cell} (h : ∀ c ∈ st, CellLow n c) (hc : CellLow n c) : ∀ d ∈ st.set i c, CellLow n d := by
  intro x hx
  rcases List.mem_or_eq_of_mem_set hx with q | q
  · exact h x q
  · exact q ▸ hc
section
variable {P : Pg} {lv : Nat} {pre post : List Cell} {n lw ln ja it jt : Nat} {out ev mon lent back : List PV} {ws ns : List Nat} {est : List (Str × PV)} {p : Str} {l : List Gi}
theorem KS_low {m : Nat} {q : PV} (hn : pre.length = n) (hq : Low m q) (h : ∀ c ∈ KS pre post n lw ln out ev mon lent back, CellLow m c) : ∀ c ∈ KS pre post n lw ln out ev mon (lent ++ [q]) (back ++ [q]), CellLow m c := by
  have e : KS pre post n lw ln out ev mon (lent ++ [q]) (back ++ [q]) = ((KS pre post n lw ln out ev mon lent back).set (n + 21) (.list (lent ++ [q]))).set (n + 22) (.list (back ++ [q])) := by
    rw [KS_set hn 21, setK' hn 22]; rfl
  rw [e]
  have h1 : CellLow m (.list lent) := h _ (List.mem_of_getElem? (KS_get hn 21 rfl))
  have h2 : CellLow m (.list back) := h _ (List.mem_of_getElem? (KS_get hn 22 rfl))
  exact low_set (c := .list (back ++ [q])) (low_set (c := .list (lent ++ [q])) h (Lows.snoc h1 hq)) (Lows.snoc h2 hq)
/-- what stands about the kernel -/
structure Ks (pre post : List Cell) (n lw ln it jt : Nat) (ws ns : List Nat) (est : List (Str × PV)) (p : Str) : Prop where
  hn : pre.length = n
  hw : pre[lw]? = some (.list (ws.map fun (w : Nat) => .int w))
  hln : pre[ln]? = some (.list (ns.map fun (w : Nat) => .int w))
  sg : Sg ws ns
  it1 : n + 33 ≤ it
  jt1 : n + 33 ≤ jt
  hit : post[it - (n + 33)]? = some (.inst thr jt)
  hjt : post[jt - (n + 33)]? = some (.dict est)
  hp : dfind "path" est = some (.str p)
  hpl : p.length ≤ 1000
theorem KS_post {j : Nat} {c : Cell} (hn : pre.length = n) (hj : n + 33 ≤ j) (h : post[j - (n + 33)]? = some c) : (KS pre post n lw ln out ev mon lent back)[j]? = some c := by
  unfold KS
  rw [← List.append_assoc, List.getElem?_append_right (by rw [List.length_append, hn]; exact hj), List.length_append, hn]; exact h
theorem Ks.itA {pre post : List Cell} {n lw ln it jt : Nat} {ws ns : List Nat} {est : List (Str × PV)} {p : Str} (k : Ks pre post n lw ln it jt ws ns est p) {out ev mon lent back : List PV} : (KS pre post n lw ln out ev mon lent back)[it]? = some (.inst thr jt) := KS_post k.hn k.it1 k.hit
theorem Ks.jtA {pre post : List Cell} {n lw ln it jt : Nat} {ws ns : List Nat} {est : List (Str × PV)} {p : Str} (k : Ks pre post n lw ln it jt ws ns est p) {out ev mon lent back : List PV} : (KS pre post n lw ln out ev mon lent back)[jt]? = some (.dict est) := KS_post k.hn k.jt1 k.hjt
theorem Ks.grow {pre post g : List Cell} {n lw ln it jt : Nat} {ws ns : List Nat} {est : List (Str × PV)} {p : Str} (k : Ks pre post n lw ln it jt ws ns est p) : Ks pre (post ++ g) n lw ln it jt ws ns est p :=
  ⟨k.hn, k.hw, k.hln, k.sg, k.it1, k.jt1, gL k.hit, gL k.hjt, k.hp, k.hpl⟩
noncomputable def pathOf (sc : Bool) (p : Str) : Str := if sc then "top.u" else p
theorem path_cl {sc : Bool} (k : Ks pre post n lw ln it jt ws ns est p) {st : List Cell} (hja : st[ja]? = some (.list (gPV l sc))) (hl : l.length ≤ 12) (h1 : st[it]? = some (.inst thr jt)) (h2 : st[jt]? = some (.dict est)) : Cl P tabs (lv + 1) (.ref 648) [.loc ja, .loc it] st (.str (pathOf sc p)) st := by
  cases sc with
  | true => exact path_t hja (by omega)
  | false => exact path_f hja (by omega) h1 h2 k.hp
theorem ars_ok (sg : Sg ws ns) (hok : ∀ g ∈ l, g.ok) : ∀ v ∈ l.map (Gi.ar ws ns), v.ok := by
  intro v hv
  obtain ⟨g, hg, rfl⟩ := List.mem_map.mp hv
  exact Gi.arok sg (hok g hg)
theorem shown_text_cl {sc : Bool} {r : Rd} (k : Ks pre post n lw ln it jt ws ns est p) (hja : (KS pre post n lw ln out ev mon lent back)[ja]? = some (.list (gPV l sc))) (hja0 : ja < n ∨ n + 33 ≤ ja) (hl : l.length ≤ 12) (hok : ∀ g ∈ l, g.ok) (hz1 : lent.length < 1000) (hz2 : back.length < 1000) :
    Cl P tabs (lv + 10) (.ref 655) [.loc (n + 7), .loc ja, .str r.s, .loc it] (KS pre post n lw ln out ev mon lent back) (.str (disp r (pathOf sc p) (l.map (Gi.ar ws ns))))
      (KS pre post n lw ln out ev mon (lent ++ [.int (lent.length : Nat)]) (back ++ [.int (lent.length : Nat)])) := by
  refine cl_drop ok_shown_text (k := 25) rfl rfl (by rw [KS_len k.hn, KS_len k.hn]) (.str _) (KS_low k.hn (.int _)) fun A L => ?_
  conv => arg 4; whnf
  have hpl : (pathOf sc p).length ≤ 1000 := by
    unfold pathOf; split
    · exact Nat.le_of_ble_eq_true rfl
    · exact k.hpl
  cases sc with
  | true =>
    have pl := plain_t (P := P) (lv := 0) hja (by omega)
    obtain ⟨g, hc, hg⟩ := arg_values_cl (P := P) (lv := lv) (pre := pre) (post := post ++ [.list (l.map Gi.pv)]) (out := out) (ev := ev) (mon := mon) (lent := lent) (back := back) (ja := (KS pre post n lw ln out ev mon lent back).length) (l := l) k.hn k.hw k.hln k.sg
      (by rw [← KS_app]; exact gA) (.inr (by rw [KS_len k.hn]; omega)) (by omega) hok k.grow.itA k.grow.jtA k.hp hz1 hz2
    rw [← KS_app, ← KS_app] at hc
    rw [← KS_app] at hg
    refine ex_ret (ev_call (k := 20) (lv := lv + 9) (ev_glob 0 20) (evs_cons (ev_call (k := 22) (lv := lv + 4) (ev_glob 1 22) (evs_cons (ev_name 0) (evs_cons (ev_call (k := 23) (lv := 1) (ev_glob 2 23) (evs_cons (ev_name 1) evs_nil) pl (by show 1 ≤ lv + 9; omega) rfl) (evs_cons (ev_name 3) evs_nil)))
      hc (by show lv + 4 ≤ lv + 9; omega) rfl) (evs_cons (ev_name 2) (evs_cons (ev_call (k := 24) (lv := 1) (ev_glob 3 24) (evs_cons (ev_name 1) (evs_cons (ev_name 3) evs_nil)) (path_cl (lv := 0) (l := l) (sc := true) k (gL ?_) hl ?_ ?_) (by show 1 ≤ lv + 9; omega) rfl) evs_nil)))
      (display_cl (lv := lv) (as := l.map (Gi.ar ws ns)) (by rw [List.map_map]; exact hg) (by simpa using hl) (ars_ok k.sg hok) hpl) (Nat.le_refl _) rfl) ?_
    · have e : KS pre post n lw ln out ev mon (lent ++ [.int (lent.length : Nat)]) (back ++ [.int (lent.length : Nat)]) = ((KS pre post n lw ln out ev mon lent back).set (n + 21) (.list (lent ++ [.int (lent.length : Nat)]))).set (n + 22) (.list (back ++ [.int (lent.length : Nat)])) := by
        rw [KS_set k.hn 21, setK' k.hn 22]; rfl
      rw [e]
      refine gL ?_
      rw [List.getElem?_set_ne (by omega), List.getElem?_set_ne (by omega)]; exact hja
    · exact gL (gL k.itA)
    · exact gL (gL k.jtA)
    · exact ⟨[.list (l.map Gi.pv)] ++ g, rfl, by rw [List.append_assoc]⟩
  | false =>
    have hg0 : gPV l false = l.map Gi.pv := by simp [gPV]
    have pl := plain_f (P := P) (lv := 0) hja (by omega)
    obtain ⟨g, hc, hg⟩ := arg_values_cl (P := P) (lv := lv) (pre := pre) (post := post) (out := out) (ev := ev) (mon := mon) (lent := lent) (back := back) (l := l) k.hn k.hw k.hln k.sg
      (hg0 ▸ hja) hja0 (by omega) hok k.itA k.jtA k.hp hz1 hz2
    refine ex_ret (ev_call (k := 20) (lv := lv + 9) (ev_glob 0 20) (evs_cons (ev_call (k := 22) (lv := lv + 4) (ev_glob 1 22) (evs_cons (ev_name 0) (evs_cons (ev_call (k := 23) (lv := 1) (ev_glob 2 23) (evs_cons (ev_name 1) evs_nil) pl (by show 1 ≤ lv + 9; omega) rfl) (evs_cons (ev_name 3) evs_nil)))
      hc (by show lv + 4 ≤ lv + 9; omega) rfl) (evs_cons (ev_name 2) (evs_cons (ev_call (k := 24) (lv := 1) (ev_glob 3 24) (evs_cons (ev_name 1) (evs_cons (ev_name 3) evs_nil)) (path_cl (lv := 0) (l := l) (sc := false) k (gL ?_) hl ?_ ?_) (by show 1 ≤ lv + 9; omega) rfl) evs_nil)))
      (display_cl (lv := lv) (as := l.map (Gi.ar ws ns)) (by rw [List.map_map]; exact hg) (by simpa using hl) (ars_ok k.sg hok) hpl) (Nat.le_refl _) rfl) ?_
    · have e : KS pre post n lw ln out ev mon (lent ++ [.int (lent.length : Nat)]) (back ++ [.int (lent.length : Nat)]) = ((KS pre post n lw ln out ev mon lent back).set (n + 21) (.list (lent ++ [.int (lent.length : Nat)]))).set (n + 22) (.list (back ++ [.int (lent.length : Nat)])) := by
        rw [KS_set k.hn 21, setK' k.hn 22]; rfl
      rw [e, List.getElem?_set_ne (by omega), List.getElem?_set_ne (by omega)]; exact hja
    · exact gL k.itA
    · exact gL k.jtA
    · exact ⟨g, rfl, rfl⟩
end
end Mine
end
section
open PySem PySem.W PySem.Calls PyProof.Rows PySem.Builtin.Str
set_option Elab.async false
set_option autoImplicit false
set_option linter.all false
set_option maxRecDepth 100000
namespace Mine
theorem disp_len {r : Rd} {path : Str} (hp : path.length ≤ 1000) : ∀ (m : Nat) (as : List Ar), as.length ≤ m → (∀ v ∈ as, v.ok) → (disp r path as).length ≤ 6000 * m
  | 0, [], _, _ => by show 0 ≤ _; omega
  | m + 1, [], _, _ => by show 0 ≤ _; omega
  | m + 1, .non :: l, h, ho => by
    have := disp_len (r := r) hp m l (by simpa using h) fun v hv => ho v (List.mem_cons_of_mem _ hv)
    show (_ ++ _ : Str).length ≤ _
    rw [Str.length_append]; show 1 + _ ≤ _; omega
  | m + 1, .num w a sg :: l, h, ho => by
    have := disp_len (r := r) hp m l (by simpa using h) fun v hv => ho v (List.mem_cons_of_mem _ hv)
    have h1 : Ar.ok (.num w a sg) := ho _ List.mem_cons_self
    have := pad_len (k := r) (sg := sg) h1.2.1 h1.2.2
    show (_ ++ _ : Str).length ≤ _
    rw [Str.length_append]; omega
  | m + 1, .txt k :: l, h, ho => by
    have hl : ∀ v ∈ l, v.ok := fun v hv => ho v (List.mem_cons_of_mem _ hv)
    have h1 := disp_len (r := r) hp m (k.restA l) (Nat.le_trans (k.restA_len l) (by simpa using h)) fun v hv => hl v (k.restA_mem l v hv)
    have h2 := k.txt_len hp hl
    rw [disp_txt, Str.length_append]; omega
section
variable {P : Pg} {lv : Nat} {pre post : List Cell} {n lw ln ja it jt : Nat} {out ev mon lent back : List PV} {ws ns : List Nat} {est : List (Str × PV)} {p name : Str} {l : List Gi} {sc : Bool} {r : Rd} {c : PV}
theorem pathOf_len (hp : p.length ≤ 1000) : (pathOf sc p).length ≤ 1000 := by
  unfold pathOf; split
  · exact Nat.le_of_ble_eq_true rfl
  · exact hp
/-- all that a call of the tasks asks for -/
structure Tk (pre post : List Cell) (n lw ln it jt ja : Nat) (ws ns : List Nat) (est : List (Str × PV)) (p : Str) (l : List Gi) (sc : Bool) (out ev mon lent back : List PV) : Prop where
  k : Ks pre post n lw ln it jt ws ns est p
  ja1 : n + 33 ≤ ja
  hja : post[ja - (n + 33)]? = some (.list (gPV l sc))
  hl : l.length ≤ 12
  ok : ∀ g ∈ l, g.ok
  z1 : out.length < 1000
  z2 : ev.length < 1000
  z3 : mon.length < 1000
  z4 : lent.length < 1000
  z5 : back.length < 1000
noncomputable abbrev dsp (ws ns : List Nat) (r : Rd) (sc : Bool) (p : Str) (l : List Gi) : Str := disp r (pathOf sc p) (l.map (Gi.ar ws ns))
theorem dsp_len (t : Tk pre post n lw ln it jt ja ws ns est p l sc out ev mon lent back) : (dsp ws ns r sc p l).length ≤ 72000 :=
  disp_len (pathOf_len t.k.hpl) 12 _ (by simpa using t.hl) (ars_ok t.k.sg t.ok)
noncomputable abbrev up (x : List PV) (y : List PV) : List PV := x ++ [.int (y.length : Nat)]
section
variable (t : Tk pre post n lw ln it jt ja ws ns est p l sc out ev mon lent back)
include t
theorem Tk.txt : Cl P tabs (lv + 10) (.ref 655) [.loc (n + 7), .loc ja, .str r.s, .loc it] (KS pre post n lw ln out ev mon lent back) (.str (dsp ws ns r sc p l)) (KS pre post n lw ln out ev mon (up lent lent) (up back lent)) :=
  shown_text_cl t.k (KS_post t.k.hn t.ja1 t.hja) (.inr t.ja1) t.hl t.ok t.z4 t.z5
theorem show_display (h : rOf name "$display" = some r) : Cl P tabs (lv + 11) (.ref 662) [.loc (n + 7), .str name, .loc ja, .loc it] (KS pre post n lw ln out ev mon lent back) (.bool true)
    (KS pre post n lw ln (out ++ [.str (dsp ws ns r sc p l ++ "\n")]) ev mon (up lent lent) (up back lent)) := by
  have hn := t.k.hn
  have hlen := dsp_len (r := r) t
  refine cl_def ok_show_task (k := 26) rfl rfl fun A L => ?_
  conv => arg 4; whnf
  refine ex_assign 4 (ev_call (k := 21) (lv := 1) (ev_glob 0 21) (evs_cons (ev_name 1) (evs_cons ev_str evs_nil)) (radix_cl (lv := 0) (Nat.le_of_ble_eq_true rfl)) (by show 1 ≤ lv + 10; omega) rfl) ?_
  rw [h]
  refine ex_if_t ((tst_cmp (ev_name 4) ev_none (c_isnot (a := .str r.s) (by intro v h; cases h))).cast rfl) ?_
  refine ex_expr (ev_append (ev_attr (ev_name 0) (KS_get hn 7 rfl) (KS_get hn 6 rfl) rfl (fun v e => by cases e)) (ev_bin (ev_call (k := 25) (lv := lv + 10) (ev_glob 1 25) (evs_cons (ev_name 0) (evs_cons (ev_name 2) (evs_cons (ev_name 4) (evs_cons (ev_name 3) evs_nil)))) (t.txt (lv := lv)) (Nat.le_refl _) rfl) ev_str (b_cat (by rw [sizeLine_eq]; show _ + 1 ≤ _; omega))) (KS_get hn 11 rfl) t.z1 ⟨_, KS_get hn 11 rfl⟩) ?_
  rw [KS_set hn 11]
  exact ex_ret ev_bool ⟨rfl, rfl⟩
theorem show_write (h0 : rOf name "$display" = none) (h : rOf name "$write" = some r) : Cl P tabs (lv + 11) (.ref 662) [.loc (n + 7), .str name, .loc ja, .loc it] (KS pre post n lw ln out ev mon lent back) (.bool true)
    (KS pre post n lw ln (out ++ [.str (dsp ws ns r sc p l)]) ev mon (up lent lent) (up back lent)) := by
  have hn := t.k.hn
  refine cl_def ok_show_task (k := 26) rfl rfl fun A L => ?_
  conv => arg 4; whnf
  refine ex_assign 4 (ev_call (k := 21) (lv := 1) (ev_glob 0 21) (evs_cons (ev_name 1) (evs_cons ev_str evs_nil)) (radix_cl (lv := 0) (Nat.le_of_ble_eq_true rfl)) (by show 1 ≤ lv + 10; omega) rfl) ?_
  rw [h0]
  refine ex_skip ((tst_cmp (ev_name 4) ev_none (c_isnot (a := .none) (by intro v h; cases h))).cast rfl) ?_
  refine ex_assign 4 (ev_call (k := 21) (lv := 1) (ev_glob 0 21) (evs_cons (ev_name 1) (evs_cons ev_str evs_nil)) (radix_cl (lv := 0) (Nat.le_of_ble_eq_true rfl)) (by show 1 ≤ lv + 10; omega) rfl) ?_
  rw [h]
  refine ex_if_t ((tst_cmp (ev_name 4) ev_none (c_isnot (a := .str r.s) (by intro v h; cases h))).cast rfl) ?_
  refine ex_expr (ev_append (ev_attr (ev_name 0) (KS_get hn 7 rfl) (KS_get hn 6 rfl) rfl (fun v e => by cases e)) (ev_call (k := 25) (lv := lv + 10) (ev_glob 1 25) (evs_cons (ev_name 0) (evs_cons (ev_name 2) (evs_cons (ev_name 4) (evs_cons (ev_name 3) evs_nil)))) (t.txt (lv := lv)) (Nat.le_refl _) rfl) (KS_get hn 11 rfl) t.z1 ⟨_, KS_get hn 11 rfl⟩) ?_
  rw [KS_set hn 11]
  exact ex_ret ev_bool ⟨rfl, rfl⟩
theorem show_strobe (h0 : rOf name "$display" = none) (h1 : rOf name "$write" = none) (h : rOf name "$strobe" = some r) : Cl P tabs (lv + 11) (.ref 662) [.loc (n + 7), .str name, .loc ja, .loc it] (KS pre post n lw ln out ev mon lent back) (.bool true)
    (KS pre post n lw ln out (ev ++ [.tup [.str "late", .tup [.str "late", .str name, .loc ja, .loc it]]]) mon lent back) := by
  have hn := t.k.hn
  refine cl_def ok_show_task (k := 26) rfl rfl fun A L => ?_
  conv => arg 4; whnf
  refine ex_assign 4 (ev_call (k := 21) (lv := 1) (ev_glob 0 21) (evs_cons (ev_name 1) (evs_cons ev_str evs_nil)) (radix_cl (lv := 0) (Nat.le_of_ble_eq_true rfl)) (by show 1 ≤ lv + 10; omega) rfl) ?_
  rw [h0]
  refine ex_skip ((tst_cmp (ev_name 4) ev_none (c_isnot (a := .none) (by intro v h; cases h))).cast rfl) ?_
  refine ex_assign 4 (ev_call (k := 21) (lv := 1) (ev_glob 0 21) (evs_cons (ev_name 1) (evs_cons ev_str evs_nil)) (radix_cl (lv := 0) (Nat.le_of_ble_eq_true rfl)) (by show 1 ≤ lv + 10; omega) rfl) ?_
  rw [h1]
  refine ex_skip ((tst_cmp (ev_name 4) ev_none (c_isnot (a := .none) (by intro v h; cases h))).cast rfl) ?_
  refine ex_if_t (st1 := KS pre post n lw ln out ev mon lent back) ((tst_cmp (ev_call (k := 21) (lv := 1) (ev_glob 0 21) (evs_cons (ev_name 1) (evs_cons ev_str evs_nil)) (radix_cl (lv := 0) (Nat.le_of_ble_eq_true rfl)) (by show 1 ≤ lv + 10; omega) rfl) ev_none (c_isnot (by rw [h]; intro v h; cases h))).cast (by rw [h]; rfl)) ?_
  refine ex_expr (ev_methown (lv := lv + 1) (ev_attr (i := n + 7) (ev_name 0) (KS_get hn 7 rfl) (KS_get hn 6 rfl) rfl (fun v e => by cases e)) (KS_get hn 15 rfl) (KS_get hn 14 rfl) rfl (evs_cons ev_str (evs_cons (ev_tuple (evs_cons ev_str (evs_cons (ev_name 1) (evs_cons (ev_name 2) (evs_cons (ev_name 3) evs_nil)))) (Nat.le_of_ble_eq_true rfl)) evs_nil)) (KS_get hn 30 rfl)
    (late_cl (lv := lv) (KS_get hn 30 rfl) (KS_get hn 29 rfl) (KS_get hn 3 rfl) (KS_get hn 7 rfl) (KS_get hn 6 rfl) rfl (KS_get hn 19 rfl) t.z2) (by show lv + 1 ≤ lv + 10; omega) (KS_get hn 30 rfl)) ?_
  rw [KS_set hn 19]
  exact ex_ret ev_bool ⟨rfl, rfl⟩
theorem show_monitor (h0 : rOf name "$display" = none) (h1 : rOf name "$write" = none) (h2 : rOf name "$strobe" = none) (h : rOf name "$monitor" = some r) (hc : dfind "number" est = some c) (hcv : NotVal c) : Cl P tabs (lv + 11) (.ref 662) [.loc (n + 7), .str name, .loc ja, .loc it] (KS pre post n lw ln out ev mon lent back) (.bool true)
    (KS pre post n lw ln out ev (mon ++ [.tup [.str name, .loc ja, c]]) lent back) := by
  have hn := t.k.hn
  refine cl_def ok_show_task (k := 26) rfl rfl fun A L => ?_
  conv => arg 4; whnf
  refine ex_assign 4 (ev_call (k := 21) (lv := 1) (ev_glob 0 21) (evs_cons (ev_name 1) (evs_cons ev_str evs_nil)) (radix_cl (lv := 0) (Nat.le_of_ble_eq_true rfl)) (by show 1 ≤ lv + 10; omega) rfl) ?_
  rw [h0]
  refine ex_skip ((tst_cmp (ev_name 4) ev_none (c_isnot (a := .none) (by intro v h; cases h))).cast rfl) ?_
  refine ex_assign 4 (ev_call (k := 21) (lv := 1) (ev_glob 0 21) (evs_cons (ev_name 1) (evs_cons ev_str evs_nil)) (radix_cl (lv := 0) (Nat.le_of_ble_eq_true rfl)) (by show 1 ≤ lv + 10; omega) rfl) ?_
  rw [h1]
  refine ex_skip ((tst_cmp (ev_name 4) ev_none (c_isnot (a := .none) (by intro v h; cases h))).cast rfl) ?_
  refine ex_skip (st1 := KS pre post n lw ln out ev mon lent back) ((tst_cmp (ev_call (k := 21) (lv := 1) (ev_glob 0 21) (evs_cons (ev_name 1) (evs_cons ev_str evs_nil)) (radix_cl (lv := 0) (Nat.le_of_ble_eq_true rfl)) (by show 1 ≤ lv + 10; omega) rfl) ev_none (c_isnot (by rw [h2]; intro v h; cases h))).cast (by rw [h2]; rfl)) ?_
  refine ex_if_t (st1 := KS pre post n lw ln out ev mon lent back) ((tst_cmp (ev_call (k := 21) (lv := 1) (ev_glob 0 21) (evs_cons (ev_name 1) (evs_cons ev_str evs_nil)) (radix_cl (lv := 0) (Nat.le_of_ble_eq_true rfl)) (by show 1 ≤ lv + 10; omega) rfl) ev_none (c_isnot (by rw [h]; intro v h; cases h))).cast (by rw [h]; rfl)) ?_
  refine ex_expr (ev_methown (lv := lv + 1) (ev_name 0) (KS_get hn 7 rfl) (KS_get hn 6 rfl) rfl (evs_cons (ev_name 1) (evs_cons (ev_name 2) (evs_cons (ev_name 3) evs_nil))) (KS_get hn 32 rfl)
    (monitor_cl (lv := lv) (KS_get hn 32 rfl) (KS_get hn 31 rfl) (KS_get hn 3 rfl) (KS_get hn 7 rfl) (KS_get hn 6 rfl) rfl (KS_get hn 20 rfl) t.z3 t.k.itA t.k.jtA hc hcv) (by show lv + 1 ≤ lv + 10; omega) (KS_get hn 32 rfl)) ?_
  rw [KS_set hn 20]
  exact ex_ret ev_bool ⟨rfl, rfl⟩
omit t in
theorem show_other {a b d : PV} {st : List Cell} (h0 : rOf name "$display" = none) (h1 : rOf name "$write" = none) (h2 : rOf name "$strobe" = none) (h : rOf name "$monitor" = none) : Cl P tabs (lv + 2) (.ref 662) [a, .str name, b, d] st (.bool false) st := by
  refine cl_def ok_show_task (k := 26) rfl rfl fun A L => ?_
  conv => arg 4; whnf
  refine ex_assign 4 (ev_call (k := 21) (lv := lv + 1) (ev_glob 0 21) (evs_cons (ev_name 1) (evs_cons ev_str evs_nil)) (radix_cl (lv := lv) (Nat.le_of_ble_eq_true rfl)) (Nat.le_refl _) rfl) ?_
  rw [h0]
  refine ex_skip ((tst_cmp (ev_name 4) ev_none (c_isnot (a := .none) (by intro v h; cases h))).cast rfl) ?_
  refine ex_assign 4 (ev_call (k := 21) (lv := lv + 1) (ev_glob 0 21) (evs_cons (ev_name 1) (evs_cons ev_str evs_nil)) (radix_cl (lv := lv) (Nat.le_of_ble_eq_true rfl)) (Nat.le_refl _) rfl) ?_
  rw [h1]
  refine ex_skip ((tst_cmp (ev_name 4) ev_none (c_isnot (a := .none) (by intro v h; cases h))).cast rfl) ?_
  refine ex_skip (st1 := st) ((tst_cmp (ev_call (k := 21) (lv := lv + 1) (ev_glob 0 21) (evs_cons (ev_name 1) (evs_cons ev_str evs_nil)) (radix_cl (lv := lv) (Nat.le_of_ble_eq_true rfl)) (Nat.le_refl _) rfl) ev_none (c_isnot (by rw [h2]; intro v h; cases h))).cast (by rw [h2]; rfl)) ?_
  refine ex_skip (st1 := st) ((tst_cmp (ev_call (k := 21) (lv := lv + 1) (ev_glob 0 21) (evs_cons (ev_name 1) (evs_cons ev_str evs_nil)) (radix_cl (lv := lv) (Nat.le_of_ble_eq_true rfl)) (Nat.le_refl _) rfl) ev_none (c_isnot (by rw [h]; intro v h; cases h))).cast (by rw [h]; rfl)) ?_
  exact ex_ret ev_bool ⟨rfl, rfl⟩
/-- run_late, where the name is known -/
theorem late_strobe (h : rOf name "$strobe" = some r) : Cl P tabs (lv + 11) (.ref 669) [.loc (n + 7), .str name, .loc ja, .loc it] (KS pre post n lw ln out ev mon lent back) .none
    (KS pre post n lw ln (out ++ [.str (dsp ws ns r sc p l ++ "\n")]) ev mon (up lent lent) (up back lent)) := by
  have hn := t.k.hn
  have hlen := dsp_len (r := r) t
  refine cl_def ok_run_late (k := 27) rfl rfl fun A L => ?_
  conv => arg 4; whnf
  refine ex_assign 4 (ev_call (k := 21) (lv := 1) (ev_glob 0 21) (evs_cons (ev_name 1) (evs_cons ev_str evs_nil)) (radix_cl (lv := 0) (Nat.le_of_ble_eq_true rfl)) (by show 1 ≤ lv + 10; omega) rfl) ?_
  rw [h]
  refine ex_skip ((tst_cmp (ev_name 4) ev_none (c_isnone (a := .str r.s) (by intro v h; cases h))).cast rfl) ?_
  refine ex_skip ((tst_cmp (ev_name 4) ev_none (c_isnone (a := .str r.s) (by intro v h; cases h))).cast rfl) ?_
  refine ex_expr (ev_append (ev_attr (ev_name 0) (KS_get hn 7 rfl) (KS_get hn 6 rfl) rfl (fun v e => by cases e)) (ev_bin (ev_call (k := 25) (lv := lv + 10) (ev_glob 2 25) (evs_cons (ev_name 0) (evs_cons (ev_name 2) (evs_cons (ev_name 4) (evs_cons (ev_name 3) evs_nil)))) (t.txt (lv := lv)) (Nat.le_refl _) rfl) ev_str (b_cat (by rw [sizeLine_eq]; show _ + 1 ≤ _; omega))) (KS_get hn 11 rfl) t.z1 ⟨_, KS_get hn 11 rfl⟩) ?_
  rw [KS_set hn 11]
  exact ex_nil ⟨rfl, rfl⟩
theorem late_monitor (h0 : rOf name "$strobe" = none) (h : rOf name "$monitor" = some r) : Cl P tabs (lv + 11) (.ref 669) [.loc (n + 7), .str name, .loc ja, .loc it] (KS pre post n lw ln out ev mon lent back) .none
    (KS pre post n lw ln (out ++ [.str (dsp ws ns r sc p l ++ "\n")]) ev mon (up lent lent) (up back lent)) := by
  have hn := t.k.hn
  have hlen := dsp_len (r := r) t
  refine cl_def ok_run_late (k := 27) rfl rfl fun A L => ?_
  conv => arg 4; whnf
  refine ex_assign 4 (ev_call (k := 21) (lv := 1) (ev_glob 0 21) (evs_cons (ev_name 1) (evs_cons ev_str evs_nil)) (radix_cl (lv := 0) (Nat.le_of_ble_eq_true rfl)) (by show 1 ≤ lv + 10; omega) rfl) ?_
  rw [h0]
  refine ex_if_t ((tst_cmp (ev_name 4) ev_none (c_isnone (a := .none) (by intro v h; cases h))).cast rfl) ?_
  refine ex_assign 4 (ev_call (k := 21) (lv := 1) (ev_glob 0 21) (evs_cons (ev_name 1) (evs_cons ev_str evs_nil)) (radix_cl (lv := 0) (Nat.le_of_ble_eq_true rfl)) (by show 1 ≤ lv + 10; omega) rfl) (ex_nil ?_)
  rw [h]
  refine ex_skip ((tst_cmp (ev_name 4) ev_none (c_isnone (a := .str r.s) (by intro v h; cases h))).cast rfl) ?_
  refine ex_expr (ev_append (ev_attr (ev_name 0) (KS_get hn 7 rfl) (KS_get hn 6 rfl) rfl (fun v e => by cases e)) (ev_bin (ev_call (k := 25) (lv := lv + 10) (ev_glob 2 25) (evs_cons (ev_name 0) (evs_cons (ev_name 2) (evs_cons (ev_name 4) (evs_cons (ev_name 3) evs_nil)))) (t.txt (lv := lv)) (Nat.le_refl _) rfl) ev_str (b_cat (by rw [sizeLine_eq]; show _ + 1 ≤ _; omega))) (KS_get hn 11 rfl) t.z1 ⟨_, KS_get hn 11 rfl⟩) ?_
  rw [KS_set hn 11]
  exact ex_nil ⟨rfl, rfl⟩
end
end
end Mine
end
section
open PySem PySem.W PySem.Calls PyProof.Rows
set_option Elab.async false
set_option autoImplicit false
set_option linter.all false
set_option maxRecDepth 100000
namespace Mine
/-- for a, b, .. over a list that stands in the store at j, from its k-th item on -/
noncomputable def FoT (C : Cx) (lo : List (Option PV)) (st : List Cell) (es : List Expr) (kx : Nat) (px : Pos) (body : List Stmt) (j k : Nat) (K : Out → Prop) : Prop :=
  ∀ (s : Shared) (ρ : List Addr) (F : Frz) (I ax : Addr), Sim C lo st ρ F s.heap → ρ[j]? = some ax → F I = none → I ∉ ρ → I ≠ C.env.locals → s.heap.IsListIter I ax k →
    ∀ R : Result → Shared → Prop, (∀ o, K o → ∀ f h' tk ρ' F', OutSim C ρ' F' h' f o → ρ <+: ρ' → FLe F F' → R (.ok f) (Rest s h' tk)) →
    codeAny (model C.P.prog C.P.w) C.A (.forLoop (.Tuple es kx px) (.ref I) body [] C.env) R s
section
variable {C : Cx} {lo lo' : List (Option PV)} {st st1 st2 st3 : List Cell} {pos : Pos} {a b c r p : PV} {K : Out → Prop} {rest : List Stmt} {es : List Expr} {kx : Nat} {px : Pos} {body : List Stmt} {items xs ys qs : List PV} {i j k : Nat}
theorem Binds.useA {es : List Expr} {qs : List PV} {lo lo' : List (Option PV)} (h : Binds C es qs lo lo') {A : Around} {E : Value → Shared → Prop} : ∀ {s : Shared} {ρ : List Addr} {F : Frz} {vs : List Value}, Sim C lo st ρ F s.heap → Reps ρ F vs qs → ∀ {Q : Unit → Shared → Prop},
    (∀ h' tk, Sim C lo' st ρ F h' → Q () (Rest s h' tk)) → wpAny (model C.P.prog C.P.w) A (assignInOrder ((assignEach es C.env).map (·.2)) vs) Q E s := by
  induction h with
  | nil => intro s ρ F vs S hr Q hQ; exact assignInOrder_nil (hQ s.heap s.toks S)
  | cons i hx _ ih =>
    intro s ρ F vs S hr Q hQ
    cases hr with
    | cons h1 h2 =>
      refine assignInOrder_cons ?_
      refine wpAny_assign_Name (S.storeName hx h1 fun h' tk S' => ?_)
      exact ih S' h2 fun h2' tk2 S2 => hQ h2' tk2 S2
theorem fot_nil (hj : st[j]? = some (.list xs)) (hk : xs.length ≤ k) (hK : K (.next lo st)) : FoT C lo st es kx px body j k K := by
  intro s ρ F I ax S hax hFI hI hL hit R hR
  obtain ⟨vs, n, hv, hr, hz⟩ := S.s.list hax hj
  have e : vs.size = xs.length := by rw [← hr.length, Array.length_toList]
  refine codeAny_of_tree ?_
  show wpAny _ _ ((forTurn (.Tuple es kx px) (.ref I) body [] C.env).onRaise (fun x => do noteFrame x C.env; theTreesLotGoes x)) _ _ s
  refine wpAny_noted ?_
  simp only [forTurn]
  refine wpAny_bind (wpAny_standAt (wpAny_bind (wpAny_onRaise ?_)))
  refine wpAny_pyNext_list_end S.good.hd hit ⟨_, hv, rfl, n, rfl⟩ (Array.getElem?_eq_none (by omega)) fun h1 he' => ?_
  refine wpAny_pure ⟨rfl, codeAny_block ?_⟩
  exact wpAny_execs_nil (hR (.next lo st) hK _ h1 _ ρ F ⟨rfl, S.keep (keep_off hFI hI hL fun b o hb e => he' b o (fun h => hb (by simp [h])) e)⟩ (List.prefix_refl _) (FLe.refl _))
theorem fot_step (hj : st[j]? = some (.list xs)) (hk : xs[k]? = some (.tup qs)) (hb : Binds C es qs lo lo')
    (h1 : Ex C lo' st body (fun o => match o with | .next lo' st' => FoT C lo' st' es kx px body j (k + 1) K | .cont lo' st' => FoT C lo' st' es kx px body j (k + 1) K | .brk lo' st' => K (.next lo' st') | .ret r s => K (.ret r s))) :
    FoT C lo st es kx px body j k K := by
  intro s ρ F I ax S hax hFI hI hL hit R hR
  have hg : C.P.h0.get? I = none := S.h0_none hFI
  obtain ⟨vs, n, hv, hr, hz⟩ := S.s.list hax hj
  obtain ⟨v, ev, rv⟩ := hr.get hk
  rw [Array.getElem?_toList] at ev
  obtain ⟨aT, ws, rfl, hfT, hrT⟩ := rv.toTup
  refine codeAny_of_tree ?_
  show wpAny _ _ ((forTurn (.Tuple es kx px) (.ref I) body [] C.env).onRaise (fun x => do noteFrame x C.env; theTreesLotGoes x)) _ _ s
  refine wpAny_noted ?_
  simp only [forTurn]
  refine wpAny_bind (wpAny_standAt (wpAny_bind (wpAny_onRaise ?_)))
  refine wpAny_pyNext_list_item hit ⟨_, hv, rfl, n, rfl⟩ ev fun h2 hit2 hs2 => ?_
  refine wpAny_bind (wpAny_letOwnedTupleGo_listiter hit2 ?_)
  have S2 : Sim C lo st ρ F h2 := S.keep (keep_off hFI hI hL fun b o hb e => hs2.extBut b o (fun h => hb (by simp [h])) e)
  obtain ⟨o2, ho2, hd2⟩ := iter_not hit2
  have Sf := S2.freeze hFI hI hL ho2
  have le := addF_le (o := o2) hFI
  obtain ⟨l1, l2⟩ := hb.len
  have ht : IsTup h2 aT ws.toArray := ⟨_, S2.s.fin _ _ hfT, rfl, 0, rfl⟩
  refine wpAny_bind (assign_Tuple_tuple S.good.hd ht (by rw [l1, List.size_toArray, hrT.length]) l2 fun h' hk' => ?_)
  have Sg : Sim C lo st ρ (addF F I o2) h' := Sf.keep fun b o e q => hk' b o (fun z => by rw [z] at e; rw [get_size] at e; cases e) e
  rw [List.toList_toArray]
  refine hb.useA (s := Rest s h' s.toks) Sg (hrT.mono (List.prefix_refl _) le) fun h3 tk3 S3 => ?_
  refine wpAny_bind (wpAny_noE (h1.run _ ρ _ S3 _ fun o ko f h4 tk4 ρ4 F4 os p4 g4 => ?_))
  have hI4 : F4 I = some o2 := g4 _ _ addF_self
  have leD : FLe F (delF F4 I) := delF_le hFI (le.trans g4)
  have os' := os.thaw hI4 hd2 hg
  have next : ∀ lo' st', Sim C lo' st' ρ4 (delF F4 I) h4 → h4.get? I = some o2 → I ∉ ρ4 → FoT C lo' st' es kx px body j (k + 1) K →
      codeAny (model C.P.prog C.P.w) C.A (.forLoop (.Tuple es kx px) (.ref I) body [] C.env) R (Rest s h4 tk4) := by
    intro lo' st' S4 hgI hI' hFo
    refine hFo _ ρ4 (delF F4 I) I ax S4 (pre_get p4 hax) (by unfold delF; rw [if_pos rfl]) hI' hL ?_ R fun o ko f h5 tk5 ρ5 F5 os5 p5 g5 => hR o ko f h5 tk5 ρ5 F5 os5 (p4.trans p5) (leD.trans g5)
    obtain ⟨o', ho', hc', hd'⟩ := hit2
    rw [ho2] at ho'; cases ho'
    exact ⟨o2, hgI, hc', hd'⟩
  cases o with
  | next lo' st' => obtain ⟨rfl, S4⟩ := os'; exact wpAny_pure ⟨rfl, next lo' st' S4 (os.2.s.fin _ _ hI4) (fun q => by have := os.2.s.off _ q; rw [hI4] at this; cases this) ko⟩
  | cont lo' st' => obtain ⟨rfl, S4⟩ := os'; exact wpAny_pure ⟨rfl, next lo' st' S4 (os.2.s.fin _ _ hI4) (fun q => by have := os.2.s.off _ q; rw [hI4] at this; cases this) ko⟩
  | brk lo' st' => obtain ⟨rfl, S4⟩ := os'; exact wpAny_pure (hR (.next lo' st') ko _ h4 tk4 ρ4 _ ⟨rfl, S4⟩ p4 leD)
  | ret r s' => obtain ⟨v, rfl, S4⟩ := os'; exact wpAny_pure (hR (.ret r s') ko _ h4 tk4 ρ4 _ ⟨v, rfl, S4⟩ p4 leD)
theorem ex_fort {iter : Expr} (hi : Ev C lo st iter (.loc j) st1) (hj : st1[j]? = some (.list xs)) (h : FoT C lo st1 es kx px body j 0 (seqK C rest K)) (hs : ∀ x, foldedSetIterable iter C.env x = pure x := by intro _; rfl) :
    Ex C lo st (.For (.Tuple es kx px) iter body [] pos :: rest) K := by
  refine ex_cons fun s ρ F S Q hQ => wpAny_For (hi.run s ρ F S _ fun v h1 t1 ρ1 F1 r1 S1 p1 f1 => ?_) hs
  obtain ⟨ax, rfl, hax⟩ := r1.toLoc
  obtain ⟨vs, n, hv, hr, hz⟩ := S1.s.list hax hj
  refine wpAny_pyIter_list ⟨_, hv, rfl, n, rfl⟩ ?_
  have fr := S1.fresh (get_size (h := h1))
  have S2 := S1.grow fun b o e => Heap.get?_push_of_some { cls := .type "list_iterator", data := .fields #[.ref ax, .int 0 0] } e
  exact h (Rest s _ t1) ρ1 F1 _ ax S2 hax fr.1 fr.2.1 fr.2.2 ⟨_, Heap.get?_push_size _ rfl, rfl, rfl⟩ _ fun o ko f h2 tk2 ρ2 F2 os p2 g2 => hQ o ko f h2 tk2 ρ2 F2 os (p1.trans p2) (f1.trans g2)
theorem fot_inv (Inv : Nat → List (Option PV) → List Cell → Prop) (h0 : Inv 0 lo st)
    (hj : ∀ k lo s, Inv k lo s → s[j]? = some (.list xs))
    (step : ∀ k p lo s, xs[k]? = some p → Inv k lo s → ∃ qs lo', p = .tup qs ∧ Binds C es qs lo lo' ∧ Ex C lo' s body (fun o => match o with | .next lo' st' => Inv (k + 1) lo' st' | .cont lo' st' => Inv (k + 1) lo' st' | .brk lo' st' => K (.next lo' st') | .ret r s => K (.ret r s)))
    (hend : ∀ lo s, Inv xs.length lo s → K (.next lo s)) : FoT C lo st es kx px body j 0 K := by
  have key : ∀ (m k : Nat) lo s, k + m = xs.length → Inv k lo s → FoT C lo s es kx px body j k K := by
    intro m
    induction m with
    | zero => intro k lo s e hI; exact fot_nil (hj _ _ _ hI) (by omega) (hend _ _ (by rw [← e]; exact hI))
    | succ m ih =>
      intro k lo s e hI
      have hk := List.getElem?_eq_getElem (l := xs) (i := k) (by omega)
      obtain ⟨qs, lo', eq, hb, hx⟩ := step k _ lo s hk hI
      refine fot_step (hj _ _ _ hI) (hk.trans (congrArg some eq)) hb (hx.mono fun o ko => ?_)
      cases o with
      | next lo' st' => exact ih (k + 1) lo' st' (by omega) ko
      | cont lo' st' => exact ih (k + 1) lo' st' (by omega) ko
      | brk _ _ => exact ko
      | ret _ _ => exact ko
  exact key xs.length 0 lo st (by omega) h0
/-- values that are told equal by what they hold -/
noncomputable def Eqv : Nat → PV → Prop
  | 0, _ => False
  | d + 1, .tup l => ∀ p ∈ l, Eqv d p
  | _ + 1, .val _ => False
  | _ + 1, .obj _ _ _ => False
  | _ + 1, _ => True
theorem eq_same {F : Frz} {ρ : List Addr} : ∀ (d : Nat) (p : PV) (A : Around) (s : Shared) (v u : Value), Eqv d p → Rep ρ F v p → Rep ρ F u p → (∀ a o, F a = some o → s.heap.get? a = some o) → A.units + d < cLine → SeqAt.EqAt A s v u true := by
  intro d
  induction d with
  | zero => intro p A s v u h; exact h.elim
  | succ d ih =>
    intro p A s v u h hv hu hF hA
    cases p with
    | none => cases hv; cases hu; exact SeqAt.EqAt.same _
    | bool b => cases hv; cases hu; exact SeqAt.EqAt.same _
    | int i => cases hv; cases hu; rename_i t1 t2; have := SeqAt.EqAt.int_int (A := A) (s := s) i t1 i t2; rwa [beq_self_eq_true] at this
    | str x => cases hv; cases hu; rename_i t1 t2; have := (eqGives_str x x t1 t2).at A s; rwa [beq_self_eq_true] at this
    | loc i =>
      obtain ⟨a, rfl, ea⟩ := hv.toLoc; obtain ⟨b, rfl, eb⟩ := hu.toLoc
      rw [ea] at eb; cases eb; exact SeqAt.EqAt.same _
    | val _ => exact h.elim
    | obj _ _ _ => exact h.elim
    | tup l =>
      obtain ⟨a, vs, rfl, fa, ra⟩ := hv.toTup; obtain ⟨b, us, rfl, fb, rb⟩ := hu.toTup
      by_cases q : a = b
      · subst q; exact SeqAt.EqAt.same _
      · have hl : vs.length = us.length := by rw [ra.length, rb.length]
        have := SeqAt.RcAt.tuples (A := A) (s := s) (l := a) (b := b) (items := vs.toArray) (items2 := us.toArray) (e := fun _ => true) ⟨_, hF _ _ fa, rfl, 0, rfl⟩ ⟨_, hF _ _ fb, rfl, 0, rfl⟩ (by omega) (fun j h1 h2 => by
          have j1 : j < l.length := by rw [← ra.length]; simpa using h1
          obtain ⟨x, ex, rx⟩ := ra.get (List.getElem?_eq_getElem j1)
          obtain ⟨y, ey, ry⟩ := rb.get (List.getElem?_eq_getElem j1)
          have e1 : vs.toArray[j] = x := by
            have : vs[j]? = some vs.toArray[j] := by rw [List.getElem_toArray]; exact List.getElem?_eq_getElem _
            rw [ex] at this; cases this; rfl
          have e2 : us.toArray[j] = y := by
            have : us[j]? = some us.toArray[j] := by rw [List.getElem_toArray]; exact List.getElem?_eq_getElem _
            rw [ey] at this; cases this; rfl
          rw [e1, e2]
          exact ih _ _ s x y (h _ (List.getElem_mem j1)) rx ry hF (by show A.units + 1 + d < cLine; omega))
        refine SeqAt.EqAt.of_refs q ?_
        have e : ((List.range (min vs.toArray.size us.toArray.size)).all (fun _ => true) && vs.toArray.size == us.toArray.size) = true := by
          rw [List.all_eq_true.mpr (fun _ _ => rfl), Bool.true_and, beq_iff_eq, List.size_toArray, List.size_toArray, hl]
        rwa [e] at this
/-- a comparison that looks into the store -/
noncomputable def CmpSt (P : Pg) (op : CmpOp) (a b : PV) (st : List Cell) (c : Bool) : Prop :=
  ∀ (A : Around) (s : Shared) (ρ : List Addr) (F : Frz) (v u : Value), A.units + 20 < cLine → SimS P st ρ F s.heap → Rep ρ F v a → Rep ρ F u b → ∀ Q : Value → Shared → Prop, Q (.bool c) s → wpAny (model P.prog P.w) A (compareOp op v u) Q NoE s
theorem ev_cmps {op : CmpOp} {l q : Expr} {x : Bool} (hl : Ev C lo st l a st1) (hr : Ev C lo st1 q b st2) (ho : CmpSt C.P op a b st2 x) (hlv : 1 ≤ C.lv) (hm : behindInMarks op q = false := by with_unfolding_all rfl) : Ev C lo st (.Compare l [op] [q] pos) (.bool x) st2 := by
  refine .mk fun s ρ F S Q hQ => ?_
  refine wpAny_Compare1 (hl.run s ρ F S _ fun v h1 t1 ρ1 F1 r1 S1 p1 f1 => hr.run _ ρ1 F1 S1 _ fun u h2 t2 ρ2 F2 r2 S2 p2 f2 => ?_) hm
  have := S.good.units
  exact ho C.A _ ρ2 F2 v u (by omega) S2.s (r1.mono p2 f2) r2 _ (hQ _ h2 t2 ρ2 F2 (.bool _) S2 (p1.trans p2) (f1.trans f2))
theorem tst_cmps {op : CmpOp} {l q : Expr} {x : Bool} (hl : Ev C lo st l a st1) (hr : Ev C lo st1 q b st2) (ho : CmpSt C.P op a b st2 x) (hlv : 1 ≤ C.lv) (hm : behindInMarks op q = false := by with_unfolding_all rfl) : Tst C lo st (.Compare l [op] [q] pos) x st2 := by
  refine .mk fun s ρ F S Q hQ => ?_
  refine wpAny_isTrue_Compare1 (hl.run s ρ F S _ fun v h1 t1 ρ1 F1 r1 S1 p1 f1 => hr.run _ ρ1 F1 S1 _ fun u h2 t2 ρ2 F2 r2 S2 p2 f2 => ?_) hm
  have := S.good.units
  exact ho C.A _ ρ2 F2 v u (by omega) S2.s (r1.mono p2 f2) r2 _ (wpAny_truthy_bool (hQ h2 t2 ρ2 F2 S2 (p1.trans p2) (f1.trans f2)))
theorem items_at {vs us : Array Value} {ρ : List Addr} {F : Frz} (r1 : Reps ρ F vs.toList xs) (r2 : Reps ρ F us.toList xs) {A : Around} {s : Shared} {d : Nat} (hx : ∀ p ∈ xs, Eqv d p) (hF : ∀ a o, F a = some o → s.heap.get? a = some o) (hA : A.units + d < cLine) :
    ∀ j (h1 : j < vs.size) (h2 : j < us.size), SeqAt.EqAt A s vs[j] us[j] true := by
  intro j h1 h2
  have j1 : j < xs.length := by rw [← r1.length, Array.length_toList]; exact h1
  obtain ⟨x, ex, rx⟩ := r1.get (List.getElem?_eq_getElem j1)
  obtain ⟨y, ey, ry⟩ := r2.get (List.getElem?_eq_getElem j1)
  rw [Array.getElem?_toList, Array.getElem?_eq_getElem h1] at ex
  rw [Array.getElem?_toList, Array.getElem?_eq_getElem h2] at ey
  cases ex; cases ey
  exact eq_same d _ A s _ _ (hx _ (List.getElem_mem j1)) rx ry hF hA
theorem all_true {n : Nat} : (List.range n).all (fun _ => true) = true := List.all_eq_true.mpr fun _ _ => rfl
variable {P : Pg}
theorem s_eql {d : Nat} (hi : st[i]? = some (.list xs)) (hj : st[j]? = some (.list xs)) (hx : ∀ p ∈ xs, Eqv d p) (hd : d ≤ 10) : CmpSt P .Eq (.loc i) (.loc j) st true := by
  intro A s ρ F v u hA S hv hu Q hQ
  obtain ⟨a, rfl, ea⟩ := hv.toLoc; obtain ⟨b, rfl, eb⟩ := hu.toLoc
  obtain ⟨vs, n, g1, r1, z1⟩ := S.list ea hi
  obtain ⟨us, m, g2, r2, z2⟩ := S.list eb hj
  refine SeqAt.eq_listAt (e := fun _ => true) ⟨_, g1, rfl, n, rfl⟩ ⟨_, g2, rfl, m, rfl⟩ ?_ (by omega) (items_at (A := A.in1) r1 r2 hx S.fin (by show A.units + 1 + d < cLine; omega)) (by rw [all_true]; exact hQ)
  rw [← Array.length_toList, ← Array.length_toList, r1.length, r2.length]
theorem s_nel {d : Nat} (hi : st[i]? = some (.list xs)) (hj : st[j]? = some (.list xs)) (hx : ∀ p ∈ xs, Eqv d p) (hd : d ≤ 10) : CmpSt P .NotEq (.loc i) (.loc j) st false := by
  intro A s ρ F v u hA S hv hu Q hQ
  obtain ⟨a, rfl, ea⟩ := hv.toLoc; obtain ⟨b, rfl, eb⟩ := hu.toLoc
  obtain ⟨vs, n, g1, r1, z1⟩ := S.list ea hi
  obtain ⟨us, m, g2, r2, z2⟩ := S.list eb hj
  refine SeqAt.RcNeAt.lists (A := A) (s := s) (e := fun _ => true) ⟨_, g1, rfl, n, rfl⟩ ⟨_, g2, rfl, m, rfl⟩ ?_ (by omega) (items_at (A := A.in1) r1 r2 hx S.fin (by show A.units + 1 + d < cLine; omega)) P.prog P.w NoE Q (by rw [all_true]; exact hQ)
  rw [← Array.length_toList, ← Array.length_toList, r1.length, r2.length]
theorem s_nelen (hi : st[i]? = some (.list xs)) (hj : st[j]? = some (.list ys)) (hx : xs.length ≠ ys.length) : CmpSt P .NotEq (.loc i) (.loc j) st true := by
  intro A s ρ F v u hA S hv hu Q hQ
  obtain ⟨a, rfl, ea⟩ := hv.toLoc; obtain ⟨b, rfl, eb⟩ := hu.toLoc
  obtain ⟨vs, n, g1, r1, z1⟩ := S.list ea hi
  obtain ⟨us, m, g2, r2, z2⟩ := S.list eb hj
  refine SeqAt.RcNeAt.lists_lengths (A := A) (s := s) ⟨_, g1, rfl, n, rfl⟩ ⟨_, g2, rfl, m, rfl⟩ ?_ (by omega) P.prog P.w NoE Q hQ
  rw [← Array.length_toList, ← Array.length_toList, r1.length, r2.length, bne_iff_ne]; exact hx
theorem s_eqt {d : Nat} {l : List PV} (hx : ∀ p ∈ l, Eqv d p) (hd : d ≤ 10) : CmpSt P .Eq (.tup l) (.tup l) st true := by
  intro A s ρ F v u hA S hv hu Q hQ
  obtain ⟨a, vs, rfl, fa, ra⟩ := hv.toTup; obtain ⟨b, us, rfl, fb, rb⟩ := hu.toTup
  have hl : vs.length = us.length := by rw [ra.length, rb.length]
  refine SeqAt.eq_tupleAt (e := fun _ => true) (items := vs.toArray) (items2 := us.toArray) ⟨_, S.fin _ _ fa, rfl, 0, rfl⟩ ⟨_, S.fin _ _ fb, rfl, 0, rfl⟩ (by omega) (items_at (A := A.in1) (xs := l) ra rb hx S.fin (by show A.units + 1 + d < cLine; omega)) ?_
  rw [all_true, Bool.true_and, List.size_toArray, List.size_toArray, hl, beq_self_eq_true]; exact hQ
/-- tuples whose first items are strings that differ -/
theorem s_eqt0 {x y : Str} {l : List PV} (hxy : (x == y) = false) : CmpSt P .Eq (.tup (.str x :: l)) (.tup [.str y]) st false := by
  intro A s ρ F v u hA S hv hu Q hQ
  obtain ⟨a, vs, rfl, fa, ra⟩ := hv.toTup; obtain ⟨b, us, rfl, fb, rb⟩ := hu.toTup
  obtain ⟨u0, rfl, h2⟩ := rb.one
  cases ra with
  | cons h1 ra =>
  rename_i v0 vs
  obtain ⟨t1, rfl⟩ := h1.toStr; obtain ⟨t2, rfl⟩ := h2.toStr
  refine SeqAt.eq_tupleAt (e := fun _ => false) (items := (Value.str x t1 :: vs).toArray) (items2 := [Value.str y t2].toArray) ⟨_, S.fin _ _ fa, rfl, 0, rfl⟩ ⟨_, S.fin _ _ fb, rfl, 0, rfl⟩ (by omega) (fun j h1 h2 => ?_) ?_
  · have : j = 0 := by simp at h2; exact h2
    subst this
    have := (eqGives_str x y t1 t2).at A.in1 s
    rw [hxy] at this; exact this
  · have e : min (Value.str x t1 :: vs).toArray.size [Value.str y t2].toArray.size = 1 := by simp
    rw [e]; exact hQ
theorem ev_addl {l q : Expr} (hl : Ev C lo st l (.loc i) st1) (hr : Ev C lo st1 q (.loc j) st2) (hi : st2[i]? = some (.list xs)) (hj : st2[j]? = some (.list ys)) (hz : xs.length + ys.length ≤ 1000) : Ev C lo st (.BinOp l .Add q pos) (.loc st2.length) (st2 ++ [.list (xs ++ ys)]) := by
  refine .mk fun s ρ F S Q hQ => ?_
  refine wpAny_BinOp (hl.run s ρ F S _ fun v h1 t1 ρ1 F1 r1 S1 p1 f1 => hr.run _ ρ1 F1 S1 _ fun u h2 t2 ρ2 F2 r2 S2 p2 f2 => ?_)
  obtain ⟨a, rfl, ea⟩ := (r1.mono p2 f2).toLoc; obtain ⟨b, rfl, eb⟩ := r2.toLoc
  obtain ⟨vs, n, g1, r1, z1⟩ := S2.s.list ea hi
  obtain ⟨us, m, g2, r2, z2⟩ := S2.s.list eb hj
  refine P.add_list g1 g2 ?_ (by rw [sizeLine_eq]; omega)
  have pre : ρ2 <+: ρ2 ++ [h2.objs.size] := List.prefix_append _ _
  have S3 := S2.addCell (c := .list (xs ++ ys)) (get_size (h := h2)) (h' := h2.push (listOf (vs ++ us) 0)) ⟨vs ++ us, 0, Heap.get?_push_size _ rfl, by rw [Array.toList_append]; exact (r1.mono pre (FLe.refl _)).append (r2.mono pre (FLe.refl _)), by rw [Array.size_append, ← Array.length_toList, ← Array.length_toList, r1.length, r2.length]; exact hz⟩ (fun b q e => Heap.get?_push_of_some _ e)
  refine hQ _ _ t2 _ F2 (.loc ?_) S3 ((p1.trans p2).trans pre) (f1.trans f2)
  rw [List.getElem?_append_right (by rw [S2.s.len]; exact Nat.le_refl _), S2.s.len, Nat.sub_self]; rfl
end
end Mine
end
section
open PySem PySem.W PySem.Calls PyProof.Rows
set_option Elab.async false
set_option autoImplicit false
set_option linter.all false
set_option maxRecDepth 100000
namespace Mine
section
variable {C : Cx} {lo : List (Option PV)} {st st1 st2 st3 stA stB : List Cell} {pos : Pos} {a b c r p : PV} {x : Str} {px : Pos} {elt iter : Expr} {scope : Scope} {items xs vs rs : List PV} {i j m lv : Nat} {y : Option PV}
theorem cp_run (T : Nat → List Cell) (hx : C.keys[0]? = some x) (hlen : rs.length = items.length) (hz : rs.length ≤ 1000) (hA : T 0 = stA) (hB : T items.length = stB) (hm0 : stA[m]? = some (.list []))
    (he : ∀ k p r, items[k]? = some p → rs[k]? = some r → (T k)[m]? = some (.list (rs.take k)) → ∃ st1, Ev C [some p] (T k) elt r st1 ∧ st1[m]? = some (.list (rs.take k)) ∧ T (k + 1) = st1.set m (.list (rs.take (k + 1)))) :
    Cp C [y] stA x px elt iter scope pos m items stB := by
  subst hA hB
  have key : ∀ (n k : Nat) (y : Option PV), k + n = items.length → (T k)[m]? = some (.list (rs.take k)) → Cp C [y] (T k) x px elt iter scope pos m (items.drop k) (T items.length) := by
    intro n
    induction n with
    | zero =>
      intro k y e _
      rw [List.drop_of_length_le (by omega), show k = items.length by omega]; exact cp_nil
    | succ n ih =>
      intro k y e hk
      have e1 := List.getElem?_eq_getElem (l := items) (i := k) (by omega)
      have e2 := List.getElem?_eq_getElem (l := rs) (i := k) (by omega)
      obtain ⟨st1, h1, h2, h3⟩ := he k _ _ e1 e2 hk
      rw [List.drop_eq_getElem_cons (by omega)]
      have tk : rs.take (k + 1) = rs.take k ++ [rs[k]] := by rw [List.take_add_one, e2]; rfl
      refine cp_cons hx h1 h2 (by rw [List.length_take]; omega) ?_
      rw [← tk, ← h3]
      refine ih (k + 1) _ (by omega) ?_
      rw [h3, List.getElem?_set_self (lt_of_get h2)]
  have := key items.length 0 y (by omega) (by simpa using hm0)
  simpa using this
theorem cpl_run (T : Nat → List Cell) (hx : C.keys[0]? = some x) (hlen : rs.length = items.length) (hz : rs.length ≤ 1000) (hA : T 0 = stA) (hB : T items.length = stB) (hm0 : stA[m]? = some (.list [])) (hj : ∀ k, k ≤ items.length → (T k)[j]? = some (.list items))
    (he : ∀ k p r, items[k]? = some p → rs[k]? = some r → (T k)[m]? = some (.list (rs.take k)) → ∃ st1, Ev C [some p] (T k) elt r st1 ∧ st1[m]? = some (.list (rs.take k)) ∧ T (k + 1) = st1.set m (.list (rs.take (k + 1)))) :
    CpL C [y] stA x px elt iter scope pos m j 0 stB := by
  subst hA hB
  have key : ∀ (n k : Nat) (y : Option PV), k + n = items.length → (T k)[m]? = some (.list (rs.take k)) → CpL C [y] (T k) x px elt iter scope pos m j k (T items.length) := by
    intro n
    induction n with
    | zero =>
      intro k y e _
      have : k = items.length := by omega
      subst this
      exact cpl_nil (hj _ (Nat.le_refl _)) (Nat.le_refl _)
    | succ n ih =>
      intro k y e hk
      have e1 := List.getElem?_eq_getElem (l := items) (i := k) (by omega)
      have e2 := List.getElem?_eq_getElem (l := rs) (i := k) (by omega)
      obtain ⟨st1, h1, h2, h3⟩ := he k _ _ e1 e2 hk
      have tk : rs.take (k + 1) = rs.take k ++ [rs[k]] := by rw [List.take_add_one, e2]; rfl
      refine cpl_cons hx (hj k (by omega)) e1 h1 h2 (by rw [List.length_take]; omega) ?_
      rw [← tk, ← h3]
      refine ih (k + 1) _ (by omega) ?_
      rw [h3, List.getElem?_set_self (lt_of_get h2)]
  exact key items.length 0 y (by omega) (by simpa using hm0)
end
theorem reps_ints {ρ : List Addr} {F : Frz} : ∀ {vs : List Value} {ns : List Int}, Reps ρ F vs (ns.map .int) → ∃ l : List (Int × Tok), vs = l.map (fun p => Value.int p.1 p.2) ∧ l.map (·.1) = ns
  | [], [], _ => ⟨[], rfl, rfl⟩
  | _ :: _, _ :: _, .cons h r => by
    obtain ⟨t, rfl⟩ := h.toInt
    obtain ⟨l, rfl, rfl⟩ := reps_ints r
    exact ⟨(_, t) :: l, rfl, rfl⟩
section
variable {P : Pg} {T : Tabs} {lv j : Nat} {st : List Cell} {ns : List Int}
theorem cl_sum (hj : st[j]? = some (.list (ns.map .int))) (hf : ∀ k, k < ns.length → InLong (ns.getD k 0) ∧ InLong (preSum (fun i => ns.getD i 0) (k + 1))) : Cl P T lv (.builtin "sum") [.loc j] st (.int (preSum (fun i => ns.getD i 0) ns.length)) st := by
  intro A sh ρ F rs G hA _ _ S hr Q hQ
  obtain ⟨_, rfl, h1⟩ := hr.one; obtain ⟨a, rfl, hp⟩ := h1.toLoc
  obtain ⟨vs, n, hv, hr, hz⟩ := S.list hp hj
  obtain ⟨l, e1, e2⟩ := reps_ints hr
  have ev : vs = intItems l.toArray := by
    apply Array.ext'; rw [e1]; simp [intItems]
  have en : numAt l.toArray = fun i => ns.getD i 0 := by
    funext i
    rw [← e2]
    simp only [numAt, List.getD_eq_getElem?_getD, List.getElem?_map, List.getElem?_toArray]
  have el : l.toArray.size = ns.length := by rw [← e2]; simp
  subst ev
  refine sum_intList hA ⟨_, hv, rfl, n, rfl⟩ (by rw [el, en]; exact hf) fun h' tk t' hk => ?_
  rw [el, en]
  exact hQ _ h' tk ρ F (.int _ _) (S.grow hk) (List.prefix_refl _) (FLe.refl _)
end
end Mine
end
section
open PySem PySem.W PySem.Calls PyProof.Rows PySem.Builtin.Str
set_option Elab.async false
set_option autoImplicit false
set_option linter.all false
set_option maxRecDepth 100000
namespace Mine
/-- _law_number with the radix rs gives f -/
noncomputable def NumIs (P : Pg) (rs : Str) (f : Nat → Nat → Bool → Str) : Prop := ∀ (lv w a : Nat) (sg : Bool) (st : List Cell), 1 ≤ w → w ≤ 56 → a < 2 ^ w → Cl P tabs (lv + 2) (.ref 716) [.str rs, .int w, .int a, .bool sg] st (.str (f w a sg)) st
theorem numIs_pad {P : Pg} (r : Rd) : NumIs P r.s (pad r) := fun _ _ _ _ _ h1 h2 h3 => number_cl h1 h2 h3
theorem numIs_short {P : Pg} : NumIs P "short" decF := fun _ _ _ _ _ h1 h2 h3 => number_short h1 h2 h3
noncomputable def chAt (k : Tp) (i : Nat) : Int := ((Txt.item k.s (((k.s.length : Nat) : Int) - 1 - (i : Int))).cps.getD 0 0 : Nat)
noncomputable def sumVal (k : Tp) (i : Nat) : Int := chAt k i * (256 : Int) ^ ((i : Int)).toNat
noncomputable def sumNs (k : Tp) : List Int := (List.range k.s.length).map (sumVal k)
theorem sum_fits (k : Tp) : ∀ j, j < (sumNs k).length → InLong ((sumNs k).getD j 0) ∧ InLong (preSum (fun i => (sumNs k).getD i 0) (j + 1)) := by
  unfold InLong; cases k <;> decide +kernel
theorem sum_is (k : Tp) : preSum (fun i => (sumNs k).getD i 0) (sumNs k).length = ((tnum k.s : Nat) : Int) := by cases k <;> decide +kernel
theorem ch_len (k : Tp) : ∀ i, i < k.s.length → (Txt.item k.s (((k.s.length : Nat) : Int) - 1 - (i : Int))).length = 1 := by cases k <;> decide +kernel
theorem ch_small (k : Tp) : ∀ i, i < k.s.length → (chAt k i).natAbs < 2 ^ 64 := by cases k <;> decide +kernel
theorem tp_len (k : Tp) : 1 ≤ k.s.length ∧ k.s.length ≤ 7 := by cases k <;> decide +kernel
theorem bits256 : ∀ n, n ≤ 7 → (Builtin.Int.intBits (256 : Int) : Int) * (n : Nat) ≤ 2 ^ 27 := by decide +kernel
theorem fitsS {i : Int} (h1 : -1000 ≤ i) (h2 : i ≤ 1000) : fitsSsize i = true := by
  unfold fitsSsize; simp; omega
section
variable {P : Pg} {lv : Nat} {st : List Cell} {lw ln : Nat} {ws ns : List Nat}
theorem marked_cl {rs : Str} {f : Nat → Nat → Bool → Str} (H : NumIs P rs f) (sg : Sg ws ns) (hw : st[lw]? = some (.list (ws.map fun (w : Nat) => .int w))) (hln : st[ln]? = some (.list (ns.map fun (w : Nat) => .int w))) {g : Gi} (hg : g.ok) :
    Cl P tabs (lv + 3) (.ref 721) [.str rs, g.pv, .loc lw, .loc ln] st (.str ((g.ar ws ns).av.shw f)) st := by
  refine clc_drop' ok_law_marked (k := 33) rfl rfl (.str _) fun A L => ?_
  conv => arg 4; whnf
  conv => arg 3; rw [show (List.map (fun o => Cell.cell (argOf [.str rs, g.pv, .loc lw, .loc ln] o)) [some 1]) = [.cell (some g.pv)] from rfl]
  cases g with
  | non =>
    refine ex_if_t (tst_cmps (ev_cname 0 rfl gA) (ev_tuple (evs_cons ev_str evs_nil) (Nat.le_of_ble_eq_true rfl)) (s_eqt (d := 1) (by intro p hp; cases List.mem_singleton.mp hp; trivial) (by decide)) (by show 1 ≤ lv + 2; omega)) ?_
    exact ex_ret ev_str ⟨_, rfl, rfl⟩
  | e i w0 s0 =>
    refine ex_skip (tst_cmps (ev_cname 0 rfl gA) (ev_tuple (evs_cons ev_str evs_nil) (Nat.le_of_ble_eq_true rfl)) (s_eqt0 (by decide)) (by show 1 ≤ lv + 2; omega)) ?_
    refine ex_skip ((tst_cmp (ev_sub (ev_cname 0 rfl gA) ev_int (i_tup (by decide) (by decide) rfl)) ev_str c_eqs).cast (by decide)) ?_
    refine ex_assign 4 (ev_sub (ev_sub (ev_cname 0 rfl gA) ev_int (i_tup (by decide) (by decide) rfl)) ev_int (i_tup (by decide) (by decide) rfl)) ?_
    obtain ⟨w, a, e1, e2, e3, e4, h1, h2, h3⟩ := sg.at hg
    refine ex_ret (ev_call (k := 32) (lv := lv + 2) (ev_glob 3 32) (evs_cons (ev_name 0) (evs_cons (ev_sub (ev_name 1) (ev_name 4) (i_list (gL hw) (Int.natCast_nonneg _) (p := .int w) ?_)) (evs_cons (ev_sub (ev_name 2) (ev_name 4) (i_list (gL hln) (Int.natCast_nonneg _) (p := .int a) ?_)) (evs_cons (ev_sub (ev_cname 0 rfl gA) ev_int (i_tup (by decide) (by decide) rfl)) evs_nil)))) (H lv w a s0 _ h1 (by omega) h3) (Nat.le_refl _) rfl) ⟨_, ?_, rfl⟩
    · rw [Int.toNat_natCast, List.getElem?_map, e1]; rfl
    · rw [Int.toNat_natCast, List.getElem?_map, e2]; rfl
    · show PV.str _ = PV.str (f (ws.getD i 0) (ns.getD i 0) s0)
      rw [e3, e4]
  | txt k =>
    obtain ⟨k1, k7⟩ := tp_len k
    refine ex_skip (tst_cmps (ev_cname 0 rfl gA) (ev_tuple (evs_cons ev_str evs_nil) (Nat.le_of_ble_eq_true rfl)) (s_eqt0 (by decide)) (by show 1 ≤ lv + 2; omega)) ?_
    refine ex_if_t ((tst_cmp (ev_sub (ev_cname 0 rfl gA) ev_int (i_tup (by decide) (by decide) rfl)) ev_str c_eqs).cast (by decide)) ?_
    have one : ∀ {C : Cx} {lo : List (Option PV)} {g : List Cell} {p1 p2 p3 : Pos} {kk : Nat}, C.ckeys[0]? = some (("one" : Str), st.length) → Ev C lo (st ++ [.cell (some (Gi.txt k).pv)] ++ g) (.Subscript (.Name "one" p1) (.Constant (.int 1) kk p2) p3) (.str k.s) (st ++ [.cell (some (Gi.txt k).pv)] ++ g) := fun h => ev_sub (ev_cname 0 h (gL gA)) ev_int (i_tup (by decide) (by decide) rfl)
    have one0 : ∀ {C : Cx} {lo : List (Option PV)} {p1 p2 p3 : Pos} {kk : Nat}, C.ckeys[0]? = some (("one" : Str), st.length) → Ev C lo (st ++ [.cell (some (Gi.txt k).pv)]) (.Subscript (.Name "one" p1) (.Constant (.int 1) kk p2) p3) (.str k.s) (st ++ [.cell (some (Gi.txt k).pv)]) := fun h => ev_sub (ev_cname 0 h gA) ev_int (i_tup (by decide) (by decide) rfl)
    have l1 : (st ++ [Cell.cell (some (Gi.txt k).pv)]).length = st.length + 1 := by simp
    have hs : (sumNs k).length = k.s.length := by simp [sumNs]
    have hup : (upto ((k.s.length : Nat) : Int).toNat).length = k.s.length := by simp [upto]
    refine ex_assign 3 (ev_bf 0 10 boot_sum (evs_cons (ev_listcomp (items := upto ((k.s.length : Nat) : Int).toNat) (stB := st ++ [.cell (some (Gi.txt k).pv)] ++ [.list ((sumNs k).map .int)]) (cl := [("one", L + 1)]) (gk := ["ord", "len"]) (ck := [("one", st.length)])
      (it_range (ev_blt 1 7 boot_range) (ev_bf 2 3 boot_len (evs_cons (one0 rfl) evs_nil) (cl_lens (by omega))) (Int.natCast_nonneg _) (by omega)) ?_ fun L2 => ?_) evs_nil) (cl_sum (by exact gA) (sum_fits k))) ?_
    · exact ⟨rfl, by decide +kernel, rfl, by decide +kernel, rfl, by intro y hy; simp only [List.mem_cons, List.not_mem_nil, or_false] at hy; rcases hy with rfl | rfl <;> rfl, by intro q hq; rw [List.mem_singleton] at hq; subst hq; exact .inl rfl, by intro q hq; rw [List.mem_singleton] at hq; subst hq; exact ⟨L + 1, rfl, rfl, List.mem_cons_self⟩⟩
    · refine cp_run (rs := (sumNs k).map .int) (fun j => st ++ [.cell (some (Gi.txt k).pv)] ++ [.list (((sumNs k).map PV.int).take j)]) rfl (by rw [hup, List.length_map, hs]) (by rw [List.length_map, hs]; omega) rfl (by rw [hup, List.take_of_length_le (by rw [List.length_map, hs]; exact Nat.le_refl _)]) gA fun j p r hp hr hm => ?_
      have hj : j < k.s.length := by rw [← hup]; exact lt_of_get hp
      have ep : p = .int (j : Int) := by
        rw [show ((k.s.length : Nat) : Int).toNat = k.s.length from rfl] at hp
        simp [upto, hj] at hp; exact hp.symm
      have er : r = .int (sumVal k j) := by
        simp [sumNs, hj] at hr; exact hr.symm
      subst ep er
      refine ⟨_, ev_bin (ev_bf 0 6 boot_ord (evs_cons (ev_sub (one rfl) (ev_bin (ev_bin (ev_bf 1 3 boot_len (evs_cons (one rfl) evs_nil) (cl_lens (by omega))) ev_int b_sub) (ev_name 0) b_sub) (i_str (fitsS (by omega) (by omega)) (by omega) (by omega))) evs_nil) (cl_ord (ch_len k j hj))) (ev_bin ev_int (ev_name 0) (b_pow (Int.natCast_nonneg _) (bits256 j (by omega)))) (b_mul (.inl (ch_small k j hj))), hm, ?_⟩
      rw [setA]
    · rw [sum_is k]
      refine ex_ret (ev_call (k := 32) (lv := lv + 2) (ev_glob 3 32) (evs_cons (ev_name 0) (evs_cons ((ev_bin ev_int (ev_bf 2 3 boot_len (evs_cons (one rfl) evs_nil) (cl_lens (by omega))) (b_mul (.inl (by decide)))).cast (r' := .int ((8 * k.s.length : Nat) : Int)) (by rw [Int.natCast_mul]; rfl)) (evs_cons (ev_name 3) (evs_cons ev_bool evs_nil))))
        (H lv (8 * k.s.length) (tnum k.s) false _ (by omega) (by omega) (by have := tn_lt k.s.cps.toList; rwa [Array.length_toList] at this)) (Nat.le_refl _) rfl) ⟨[.cell (some (Gi.txt k).pv)] ++ [.list ((sumNs k).map .int)], rfl, by rw [List.append_assoc]⟩
end
end Mine
end
section
open PySem PySem.W PySem.Calls PyProof.Rows PySem.Builtin.Str
set_option Elab.async false
set_option autoImplicit false
set_option linter.all false
set_option maxRecDepth 100000
namespace Mine
theorem sA {a b c : Str} : a ++ b ++ c = a ++ (b ++ c) := Str.append_assoc a b c
theorem tst_nemp {C : Cx} {lo : List (Option PV)} {s : List Cell} {e : Expr} {j : Nat} {xs : List PV} {p pos : Pos} (ho : Ev C lo s e (.loc j) s) (hj : s[j]? = some (.list xs)) (hlv : 1 ≤ C.lv) (hx : ∀ p ∈ xs, Eqv 3 p) :
    Tst C lo s (.Compare e [.NotEq] [.List [] p] pos) (!xs.isEmpty) (s ++ [.list []]) := by
  cases xs with
  | nil => exact tst_cmps ho (ev_list evs_nil (by decide)) (s_nel (gL hj) gA hx (by decide)) hlv
  | cons x xs => exact tst_cmps ho (ev_list evs_nil (by decide)) (s_nelen (gL hj) gA (by simp)) hlv
theorem ev_popM {C : Cx} {lo : List (Option PV)} {st g : List Cell} {o : Expr} {apos pos : Pos} {xs : List PV} {p : PV} (ho : Ev C lo (st ++ [.list (xs ++ [p])] ++ g) o (.loc st.length) (st ++ [.list (xs ++ [p])] ++ g))
    (hbase : attributeBase o "pop" C.env (eval o C.env) = eval o C.env := by rfl) (hline : (apos.endLine == pos.line) = true := by rfl) : Ev C lo (st ++ [.list (xs ++ [p])] ++ g) (.Call (.Attribute o "pop" apos) [] [] pos) p (st ++ [.list xs] ++ g) := by
  have := ev_pop ho gM hbase hline
  rwa [setL] at this
theorem tst_nempM {C : Cx} {lo : List (Option PV)} {st g : List Cell} {e : Expr} {xs : List PV} {p pos : Pos} {z : Bool} (ho : Ev C lo (st ++ [.list xs] ++ g) e (.loc st.length) (st ++ [.list xs] ++ g)) (hlv : 1 ≤ C.lv) (hx : ∀ p ∈ xs, Eqv 3 p) (hz : xs.isEmpty = !z) :
    Tst C lo (st ++ [.list xs] ++ g) (.Compare e [.NotEq] [.List [] p] pos) z (st ++ [.list xs] ++ (g ++ [.list []])) := by
  have := tst_nemp (p := p) (pos := pos) ho gM hlv hx
  rw [hz, Bool.not_not, appL (b := g)] at this; exact this
theorem tst_and2' {C : Cx} {lo : List (Option PV)} {st st1 : List Cell} {e1 e2 : Expr} {pos : Pos} {y1 y2 : Bool} (h1 : Tst C lo st e1 y1 st1) (h2 : y1 = true → Tst C lo st1 e2 y2 st1) : Tst C lo st (.BoolOp .And [e1, e2] pos) (y1 && y2) st1 :=
  tst_boolop (and_cons h1 (fun e => by rw [e]; exact (and_cons (h2 e) (fun q => by rw [q]; exact and_nil) fun q => ⟨by rw [q]; rfl, rfl⟩)) fun e => ⟨by rw [e]; rfl, rfl⟩)
theorem Gi.eqv : ∀ g : Gi, Eqv 3 g.pv
  | .e _ _ _ => by
    intro p hp
    simp only [List.mem_cons, List.not_mem_nil, or_false] at hp
    rcases hp with rfl | rfl | rfl
    · trivial
    · intro p hp
      simp only [List.mem_cons, List.not_mem_nil, or_false] at hp
      rcases hp with rfl | rfl | rfl <;> trivial
    · trivial
  | .non => by intro p hp; cases List.mem_singleton.mp hp; trivial
  | .txt _ => by
    intro p hp
    simp only [List.mem_cons, List.not_mem_nil, or_false] at hp
    rcases hp with rfl | rfl <;> trivial
theorem scPV_eqv : Eqv 3 scPV := by
  intro p hp
  simp only [List.mem_cons, List.not_mem_nil, or_false] at hp
  rcases hp with rfl | rfl <;> trivial
theorem gPV_eqv (l : List Gi) (sc : Bool) : ∀ p ∈ gPV l sc, Eqv 3 p := by
  intro p hp
  rcases List.mem_append.mp hp with q | q
  · obtain ⟨g, _, rfl⟩ := List.mem_map.mp q; exact g.eqv
  · cases sc with
    | true => cases List.mem_singleton.mp q; exact scPV_eqv
    | false => cases q
theorem rev_eqv (l : List Gi) : ∀ p ∈ (l.map Gi.pv).reverse, Eqv 3 p := by
  intro p hp
  obtain ⟨g, _, rfl⟩ := List.mem_map.mp (List.mem_reverse.mp hp); exact g.eqv
theorem rev_cons (g : Gi) (l : List Gi) : ((g :: l).map Gi.pv).reverse = (l.map Gi.pv).reverse ++ [g.pv] := by simp
theorem len_pre {a b c : Str} (h : a ++ b = c) (hc : c.length ≤ 72000) : a.length ≤ 72000 := by
  rw [← h, Str.length_append] at hc; omega
section
variable {P : Pg} {lv : Nat} {st : List Cell} {lw ln ja : Nat} {ws ns : List Nat} {l : List Gi} {sc : Bool} {r : Rd}
theorem shown_cl (sg : Sg ws ns) (hw : st[lw]? = some (.list (ws.map fun (w : Nat) => .int w))) (hln : st[ln]? = some (.list (ns.map fun (w : Nat) => .int w))) (hj : st[ja]? = some (.list (gPV l sc))) (hl : l.length ≤ 12) (hok : ∀ g ∈ l, g.ok) :
    Cl P tabs (lv + 4) (.ref 728) [.str r.s, .loc ja, .loc lw, .loc ln] st (.str (dsp ws ns r sc "top.t" l)) st := by
  refine cl_drop' ok_law_shown (k := 34) rfl rfl (.str _) fun A L => ?_
  conv => arg 4; whnf
  have hlv : 1 ≤ lv + 3 := by omega
  have htot : (dsp ws ns r sc "top.t" l).length ≤ 72000 := disp_len (pathOf_len (Nat.le_of_ble_eq_true rfl)) 12 _ (by simpa using hl) (ars_ok sg hok)
  refine ex_assign 4 ev_str ?_
  refine ex_assign 5 (ev_callt (lv := 0) (ev_blt 0 9 boot_list) (evs_cons (ev_name 1) evs_nil) (cl_copy hj) (Nat.zero_le _)) ?_
  -- the loop, from the list of what is left on
  have loop : ∀ (path : Str) (x7 : Option PV) (g0 : List Cell), path = pathOf sc "top.t" →
      Ex (mkCx P tabs A fd_law_shown L 728 ["radix", "given", "wides", "numbers", "path", "rest", "found", "one"] ["list", "_law_marked"] (lv + 3)) [some (.str r.s), some (.loc ja), some (.loc lw), some (.loc ln), some (.str path), some (.loc st.length), none, x7] (st ++ [.list (l.map Gi.pv)] ++ g0)
      ((bodyOf 109).drop 3) (fun o => ∃ g, RetIs (.str (dsp ws ns r sc "top.t" l)) (st ++ g) o) := by
    intro path x7 g0 hpath
    conv => arg 4; whnf
    refine ex_expr (ev_reverse (ev_name 5) gM) ?_
    rw [setL]
    refine ex_assign 6 ev_str ?_
    refine ex_while (wh_inv (fun m lo s => ∃ (rem : List Gi) (acc : Str) (g : List Cell), m = rem.length ∧ (∃ x7, lo = [some (.str r.s), some (.loc ja), some (.loc lw), some (.loc ln), some (.str path), some (.loc st.length), some (.str acc), x7]) ∧
      s = st ++ [.list (rem.map Gi.pv).reverse] ++ g ∧ (∀ v ∈ rem, v.ok) ∧ acc ++ disp r path (rem.map (Gi.ar ws ns)) = dsp ws ns r sc "top.t" l) l.length ⟨l, "", g0, rfl, ⟨_, rfl⟩, rfl, hok, by rw [hpath]; exact Str.empty_append _⟩ ?_)
    rintro m _ s ⟨rem, acc, g, rfl, ⟨x7, rfl⟩, rfl, hr, ht⟩
    refine ⟨_, _, tst_nemp (ev_name 5) gM hlv (rev_eqv rem), fun h => ?_, fun h => ?_⟩
    · cases rem with
      | nil => cases h
      | cons v rem =>
      have hr' : ∀ v ∈ rem, v.ok := fun q hq => hr q (List.mem_cons_of_mem _ hq)
      have hv := hr v List.mem_cons_self
      rw [rev_cons, appL (c := [Cell.list []])]
      generalize g ++ [Cell.list []] = g1
      refine ex_assign 7 (ev_pop (ev_name 5) gM) ?_
      rw [setL]
      have hw' : ∀ {xs : List PV} {g : List Cell}, (st ++ [Cell.list xs] ++ g)[lw]? = some (.list (ws.map fun (w : Nat) => .int w)) := gL (gL hw)
      have hln' : ∀ {xs : List PV} {g : List Cell}, (st ++ [Cell.list xs] ++ g)[ln]? = some (.list (ns.map fun (w : Nat) => .int w)) := gL (gL hln)
      have fin : ∀ (p : Str) (rem' : List Gi) (g' : List Cell) (x7 : Option PV), rem'.length ≤ rem.length → (∀ v ∈ rem', v ∈ rem) → disp r path ((v :: rem).map (Gi.ar ws ns)) = p ++ disp r path (rem'.map (Gi.ar ws ns)) →
          ∃ m', m' < (v :: rem).length ∧ ∃ (rem2 : List Gi) (acc2 : Str) (g2 : List Cell), m' = rem2.length ∧ (∃ y7, [some (.str r.s), some (.loc ja), some (.loc lw), some (.loc ln), some (.str path), some (.loc st.length), some (.str (acc ++ p)), x7] = [some (.str r.s), some (.loc ja), some (.loc lw), some (.loc ln), some (.str path), some (.loc st.length), some (.str acc2), y7]) ∧
            st ++ [Cell.list (rem'.map Gi.pv).reverse] ++ g' = st ++ [.list (rem2.map Gi.pv).reverse] ++ g2 ∧ (∀ v ∈ rem2, v.ok) ∧ acc2 ++ disp r path (rem2.map (Gi.ar ws ns)) = dsp ws ns r sc "top.t" l := by
        intro p rem' g' x7 h1 h2 h3
        exact ⟨rem'.length, by rw [List.length_cons]; omega, rem', acc ++ p, g', rfl, ⟨_, rfl⟩, rfl, fun v hv => hr' v (h2 v hv), by rw [Str.append_assoc, ← h3]; exact ht⟩
      have cat : ∀ (p : Str) (q : Str), disp r path ((v :: rem).map (Gi.ar ws ns)) = p ++ q → acc.length + p.length ≤ 72000 := by
        intro p q e
        rw [e, ← Str.append_assoc] at ht
        have := len_pre ht htot
        rwa [Str.length_append] at this
      have big : ∀ {n : Nat}, n ≤ 72000 → n ≤ sizeLine := fun h => by rw [sizeLine_eq]; omega
      cases v with
      | e i w0 s0 =>
        refine ex_if_t ((tst_cmp (ev_sub (ev_name 7) ev_int (i_tup (by decide) (by decide) rfl)) ev_str c_nes).cast (by decide)) ?_
        refine ex_assign 6 (ev_bin (ev_name 6) (ev_call (k := 33) (lv := lv + 3) (ev_glob 1 33) (evs_cons (ev_name 0) (evs_cons (ev_name 7) (evs_cons (ev_name 2) (evs_cons (ev_name 3) evs_nil)))) (marked_cl (lv := lv) (numIs_pad r) sg hw' hln' (g := .e i w0 s0) hv) (Nat.le_refl _) rfl) (b_cat (big (cat _ _ rfl)))) (ex_nil (ex_nil ?_))
        exact fin _ rem _ _ (Nat.le_refl _) (fun _ h => h) rfl
      | non =>
        refine ex_if_t ((tst_cmp (ev_sub (ev_name 7) ev_int (i_tup (by decide) (by decide) rfl)) ev_str c_nes).cast (by decide)) ?_
        refine ex_assign 6 (ev_bin (ev_name 6) (ev_call (k := 33) (lv := lv + 3) (ev_glob 1 33) (evs_cons (ev_name 0) (evs_cons (ev_name 7) (evs_cons (ev_name 2) (evs_cons (ev_name 3) evs_nil)))) (marked_cl (lv := lv) (numIs_pad r) sg hw' hln' (g := .non) hv) (Nat.le_refl _) rfl) (b_cat (big (cat _ _ rfl)))) (ex_nil (ex_nil ?_))
        exact fin _ rem _ _ (Nat.le_refl _) (fun _ h => h) rfl
      | txt k =>
        refine ex_if_f ((tst_cmp (ev_sub (ev_name 7) ev_int (i_tup (by decide) (by decide) rfl)) ev_str c_nes).cast (by decide)) ?_
        have skip : ∀ {x : Str} {e1 e2 : List Stmt} {p1 p2 p3 p4 p5 pos : Pos} {k1 k2 : Nat} {K : Out → Prop} {g : List Cell} {lo : List (Option PV)} {C : Cx}, (k.s == x) = false → C.keys[7]? = some ("one" : Str) → lo[7]? = some (some (Gi.txt k).pv) → Ex C lo g e2 (seqK C [] K) →
            Ex C lo g [.If (.Compare (.Subscript (.Name "one" p1) (.Constant (.int 1) k1 p2) p3) [.Eq] [.Constant (.str x) k2 p4] p5) e1 e2 pos] K :=
          fun h1 h2 h3 h => ex_if_f ((tst_cmp (ev_sub (ev_name 7 h2 h3) ev_int (i_tup (by decide) (by decide) rfl)) ev_str c_eqs).cast h1) h
        have take : ∀ {x : Str} {e1 e2 : List Stmt} {p1 p2 p3 p4 p5 pos : Pos} {k1 k2 : Nat} {K : Out → Prop} {g : List Cell} {lo : List (Option PV)} {C : Cx}, (k.s == x) = true → C.keys[7]? = some ("one" : Str) → lo[7]? = some (some (Gi.txt k).pv) → Ex C lo g e1 (seqK C [] K) →
            Ex C lo g [.If (.Compare (.Subscript (.Name "one" p1) (.Constant (.int 1) k1 p2) p3) [.Eq] [.Constant (.str x) k2 p4] p5) e1 e2 pos] K :=
          fun h1 h2 h3 h => ex_if_t ((tst_cmp (ev_sub (ev_name 7 h2 h3) ev_int (i_tup (by decide) (by decide) rfl)) ev_str c_eqs).cast h1) h
        have dt := disp_txt r path k (rem.map (Gi.ar ws ns))
        cases k with
        | ab =>
          refine skip (by decide) rfl rfl (skip (by decide) rfl rfl (skip (by decide) rfl rfl ?_))
          refine ex_assign 6 (ev_bin (ev_name 6) (ev_sub (ev_name 7) ev_int (i_tup (p := .str "ab") (by decide) (by decide) rfl)) (b_cat (big (cat _ _ dt)))) (ex_nil (ex_nil (ex_nil (ex_nil (ex_nil ?_)))))
          exact fin _ rem _ _ (Nat.le_refl _) (fun _ h => h) dt
        | c =>
          refine skip (by decide) rfl rfl (skip (by decide) rfl rfl (skip (by decide) rfl rfl ?_))
          refine ex_assign 6 (ev_bin (ev_name 6) (ev_sub (ev_name 7) ev_int (i_tup (p := .str "100%") (by decide) (by decide) rfl)) (b_cat (big (cat _ _ dt)))) (ex_nil (ex_nil (ex_nil (ex_nil (ex_nil ?_)))))
          exact fin _ rem _ _ (Nat.le_refl _) (fun _ h => h) dt
        | m =>
          refine take (by decide) rfl rfl ?_
          have c1 := cat _ _ dt
          rw [show Tp.txt path .m ((rem.map (Gi.ar ws ns)).map Ar.av) = path ++ "." from rfl, Str.length_append] at c1
          have c2 : (".": Str).length = 1 := rfl
          refine ex_assign 6 ((ev_bin (ev_bin (ev_name 6) (ev_name 4) (b_cat (big (by omega)))) ev_str (b_cat (big (by rw [Str.length_append]; omega)))).cast (congrArg PV.str sA)) (ex_nil (ex_nil (ex_nil ?_)))
          exact fin _ rem _ _ (Nat.le_refl _) (fun _ h => h) dt
        | d =>
          refine skip (by decide) rfl rfl (take (by decide) rfl rfl ?_)
          have c2 : (";": Str).length = 1 := rfl
          cases rem with
          | nil =>
            have c1 := cat _ _ dt
            have c3 : Tp.txt path .d (([] : List Ar).map Ar.av) = "%0d;" := rfl
            rw [List.map_nil, c3] at c1
            have c4 : ("%0d;": Str).length = 4 := rfl
            have c5 : ("%0d": Str).length = 3 := rfl
            refine ex_assign 6 ((ev_bin (ev_bin (ev_name 6) (ev_ifexp (tst_nempM (z := false) (ev_name 5) hlv (rev_eqv []) rfl) (fun h => nomatch h) fun _ => ev_str) (b_cat (big (by omega)))) ev_str (b_cat (big (by rw [Str.length_append]; omega)))).cast (congrArg PV.str (sA.trans (congrArg (acc ++ ·) (by decide +kernel : ("%0d" : Str) ++ ";" = "%0d;"))))) (ex_nil (ex_nil (ex_nil (ex_nil ?_))))
            exact fin _ [] _ _ (Nat.le_refl _) (fun _ h => h) dt
          | cons v2 rem2 =>
            have c1 := cat _ _ dt
            have c3 : Tp.txt path .d (((v2 :: rem2).map (Gi.ar ws ns)).map Ar.av) = (v2.ar ws ns).av.shw decF ++ ";" := rfl
            rw [c3, Str.length_append] at c1
            rw [rev_cons]
            refine ex_assign 6 ((ev_bin (ev_bin (ev_name 6) (ev_ifexp (tst_nempM (z := true) (ev_name 5) hlv (rev_cons v2 rem2 ▸ rev_eqv (v2 :: rem2)) (by simp)) (fun _ => ev_call (k := 33) (lv := lv + 3) (ev_glob 1 33) (evs_cons ev_str (evs_cons (ev_popM (ev_name 5)) (evs_cons (ev_name 2) (evs_cons (ev_name 3) evs_nil)))) (marked_cl (lv := lv) numIs_short sg hw' hln' (g := v2) (hr' v2 List.mem_cons_self)) (Nat.le_refl _) rfl) fun h => nomatch h) (b_cat (big (by omega)))) ev_str (b_cat (big (by rw [Str.length_append]; omega)))).cast (congrArg PV.str sA)) (ex_nil (ex_nil (ex_nil (ex_nil ?_))))
            exact fin _ rem2 _ _ (by simp) (fun _ h => List.mem_cons_of_mem _ h) dt
        | h =>
          refine skip (by decide) rfl rfl (skip (by decide) rfl rfl (take (by decide) rfl rfl ?_))
          have c2 : ("%": Str).length = 1 := rfl
          have c6 : ("<": Str).length = 1 := rfl
          cases rem with
          | nil =>
            have c1 := cat _ _ dt
            have c3 : Tp.txt path .h (([] : List Ar).map Ar.av) = "<%h%" := rfl
            rw [List.map_nil, c3] at c1
            have c4 : ("<%h%": Str).length = 4 := rfl
            have c5 : ("%h": Str).length = 2 := rfl
            refine ex_assign 6 ((ev_bin (ev_bin (ev_bin (ev_name 6) ev_str (b_cat (big (by omega)))) (ev_ifexp (tst_nempM (z := false) (ev_name 5) hlv (rev_eqv []) rfl) (fun h => nomatch h) fun _ => ev_str) (b_cat (big (by rw [Str.length_append]; omega)))) ev_str (b_cat (big (by rw [Str.length_append, Str.length_append]; omega)))).cast (congrArg PV.str ((sA.trans sA).trans (congrArg (acc ++ ·) (by decide +kernel : ("<" : Str) ++ ("%h" ++ "%") = "<%h%"))))) (ex_nil (ex_nil (ex_nil (ex_nil (ex_nil ?_)))))
            exact fin _ [] _ _ (Nat.le_refl _) (fun _ h => h) dt
          | cons v2 rem2 =>
            have c1 := cat _ _ dt
            have c3 : Tp.txt path .h (((v2 :: rem2).map (Gi.ar ws ns)).map Ar.av) = "<" ++ (v2.ar ws ns).av.shw (pad .h) ++ "%" := rfl
            rw [c3, Str.length_append, Str.length_append] at c1
            rw [rev_cons]
            refine ex_assign 6 ((ev_bin (ev_bin (ev_bin (ev_name 6) ev_str (b_cat (big (by omega)))) (ev_ifexp (tst_nempM (z := true) (ev_name 5) hlv (rev_cons v2 rem2 ▸ rev_eqv (v2 :: rem2)) (by simp)) (fun _ => ev_call (k := 33) (lv := lv + 3) (ev_glob 1 33) (evs_cons ev_str (evs_cons (ev_popM (ev_name 5)) (evs_cons (ev_name 2) (evs_cons (ev_name 3) evs_nil)))) (marked_cl (lv := lv) (numIs_pad .h) sg hw' hln' (g := v2) (hr' v2 List.mem_cons_self)) (Nat.le_refl _) rfl) fun h => nomatch h) (b_cat (big (by rw [Str.length_append]; omega)))) ev_str (b_cat (big (by rw [Str.length_append, Str.length_append]; omega)))).cast (congrArg PV.str ((sA.trans sA).trans (congrArg (acc ++ ·) sA.symm)))) (ex_nil (ex_nil (ex_nil (ex_nil (ex_nil ?_)))))
            exact fin _ rem2 _ _ (by simp) (fun _ h => List.mem_cons_of_mem _ h) dt
    · cases rem with
      | cons v rem => simp at h
      | nil =>
        refine ex_ret (ev_name 6) ⟨_, ?_, by rw [appL, appL]⟩
        rw [← ht]; exact congrArg PV.str (Str.append_empty _).symm
  have test : Tst (mkCx P tabs A fd_law_shown L 728 ["radix", "given", "wides", "numbers", "path", "rest", "found", "one"] ["list", "_law_marked"] (lv + 3)) [some (.str r.s), some (.loc ja), some (.loc lw), some (.loc ln), some (.str "top.t"), some (.loc st.length), none, none] (st ++ [.list (gPV l sc)])
      (match (bodyOf 109)[2]? with | some (Stmt.If t _ _ _) => t | _ => default) sc (st ++ [.list (gPV l sc)] ++ [.list []]) := by
    conv => arg 4; whnf
    cases sc with
    | true =>
      have hg : gPV l true = l.map Gi.pv ++ [scPV] := rfl
      refine (tst_and2' (y2 := true) (tst_nemp (ev_name 5) gA hlv (gPV_eqv l true)) fun _ => tst_cmp (ev_sub (ev_sub (ev_name 5) (ev_neg ev_int) (i_listneg (p := scPV) (gL gA) (by decide) (by rw [hg, List.length_append]; show -((_ + 1 : Nat) : Int) ≤ -1; omega) ?_)) ev_int (i_tup (by decide) (by decide) rfl)) ev_str (c_eqs (s := "scope") (t := "scope"))).cast (by rw [hg]; simp)
      rw [hg, show ((-1 : Int) + ((l.map Gi.pv ++ [scPV]).length : Nat)).toNat = (l.map Gi.pv).length by rw [List.length_append]; show (-1 + ((_ + 1 : Nat) : Int)).toNat = _; omega]
      simp
    | false =>
      have hg : gPV l false = l.map Gi.pv := by simp [gPV]
      rcases Nat.eq_zero_or_pos l.length with h0 | h0
      · have : l = [] := List.length_eq_zero_iff.mp h0
        subst this
        exact (tst_and2' (y2 := true) (tst_nemp (ev_name 5) gA hlv (gPV_eqv [] false)) fun h => nomatch h).cast rfl
      · have hlast := List.getElem?_eq_getElem (l := l) (i := l.length - 1) (by omega)
        obtain ⟨r', hr'⟩ := (l[l.length - 1]'(by omega)).tag_pv
        refine (tst_and2' (y2 := false) (tst_nemp (ev_name 5) gA hlv (gPV_eqv l false)) fun _ => (tst_cmp (ev_sub (ev_sub (ev_name 5) (ev_neg ev_int) (i_listneg (p := .tup (.str (l[l.length - 1]'(by omega)).tag :: r')) (gL gA) (by decide) (by rw [hg, List.length_map]; omega) ?_)) ev_int (i_tup (by decide) (by decide) rfl)) ev_str c_eqs).cast (Gi.not_scope _)).cast (Bool.and_false _)
        rw [hg, List.length_map, show ((-1 : Int) + (l.length : Nat)).toNat = l.length - 1 by omega, List.getElem?_map, hlast, Option.map_some, hr']
  cases sc with
  | true =>
    refine ex_if_t test ?_
    have hg : gPV l true = l.map Gi.pv ++ [scPV] := rfl
    rw [hg]
    refine ex_assign 4 (ev_sub (ev_popM (ev_name 5)) ev_int (i_tup (p := .str "top.u") (by decide) (by decide) rfl)) (ex_nil ?_)
    exact loop "top.u" none [.list []] rfl
  | false =>
    have hg : gPV l false = l.map Gi.pv := by simp [gPV]
    refine ex_skip test ?_
    rw [hg]
    exact loop "top.t" none [.list []] rfl
end
end Mine
end
section
open PySem PySem.W PySem.Calls PyProof.Rows
set_option Elab.async false
set_option autoImplicit false
set_option linter.all false
set_option maxRecDepth 100000
namespace Mine
section
variable {prog : Program} {w : World} {A : Around} {E : Value → Shared → Prop} {s : Shared} {env : Env}
/-- value[a:b], value no name -/
theorem sub_slice {value : Expr} {lower upper : Option Expr} {p pos : Pos} {T id : String} {Q : Value → Shared → Prop}
    (hl : typeLookup (.type T) "__getitem__" = pure (some (.builtin id)))
    (h : wpAny (model prog w) A (eval value env) (fun o s₁ => wpAny (model prog w) A (eval (.Slice lower upper none p) env) (fun i s₂ => s₂.TypeIs o T ∧ wpAny (model prog w) A (getItem o i) Q E s₂) E s₁) E s) :
    wpAny (model prog w) A (eval (.Subscript value (.Slice lower upper none p) pos) env) Q E s := by
  rw [eval_Subscript]
  refine wpAny_bind (wpAny_mono h (fun o s₁ h₁ => wpAny_bind (wpAny_holding (wpAny_mono h₁ (fun i s₂ h₂ => wpAny_bind (wpAny_standAt ?_)) fun _ _ x => x))) fun _ _ x => x)
  have fin : wpAny (model prog w) A (operate [i, o] (getItem o i)) (fun r s₃ => wpAny (model prog w) A (letTemporaryGo value o r >>= fun _ => pure r) Q E s₃) E s₂ :=
    wpAny_operating (wpAny_mono h₂.2 (fun r s₃ h₃ => wpAny_bind (wpAny_letTemporaryGo (wpAny_pure h₃))) fun _ _ x => x)
  first
    | (refine wpAny_bind ?_
       rw [getitemInPython_of_ne h₂.1.not_modules]
       refine wpAny_bind (wpAny_specialOf h₂.1 hl ?_)
       first
         | exact wpAny_pure (wpAny_bind fin)
         | exact wpAny_bind (wpAny_pure (wpAny_bind fin))
         | exact wpAny_bind fin)
    | (refine wpAny_bind (wpAny_specialOf h₂.1 hl ?_)
       first
         | exact wpAny_bind (wpAny_pure (wpAny_bind fin))
         | exact wpAny_bind fin)
theorem sub_list_slice {value : Expr} {lower upper : Option Expr} {p pos : Pos} {Q : Value → Shared → Prop}
    (h : wpAny (model prog w) A (eval value env) (fun o s₁ => wpAny (model prog w) A (evalPart lower env) (fun vl s₂ => wpAny (model prog w) A (evalPart upper env) (fun vu s₃ =>
      ∃ l items lo hi, o = .ref l ∧ s₃.heap.IsList l items ∧ items.size ≤ sizeLine ∧ IsPart vl lo ∧ IsPart vu hi ∧
        Q (.ref (s₃.heap.objs.size + 1)) { s₃ with heap := (s₃.heap.push { cls := .type "slice", data := .fields #[vl, vu, .none] }).push { cls := .type "list", data := .seq (slicePick items lo hi none) } }) E s₂) E s₁) E s) :
    wpAny (model prog w) A (eval (.Subscript value (.Slice lower upper none p) pos) env) Q E s := by
  refine sub_slice (T := "list") list_getitem_lookup (wpAny_mono h (fun o s₁ h₁ => wpAny_Slice (wpAny_mono h₁ (fun vl s₂ h₂ => wpAny_mono h₂ (fun vu s₃ h₃ => ?_) fun _ _ e => e) fun _ _ e => e)) fun _ _ e => e)
  obtain ⟨l, items, lo, hi, rfl, hl, hsz, pl, pu, hQ⟩ := h₃
  rw [evalPart_none]
  refine wpAny_pure ⟨(hl.push _).typeIs, wpAny_getItem_list_slice (hl.push _) (Heap.IsSliceOf.new ..) pl pu .none (by simp) ?_ hsz⟩
  rw [Heap.size_push]
  exact hQ
end
section
variable {C : Cx} {lo : List (Option PV)} {st st1 st2 st3 : List Cell} {pos : Pos} {xs : List PV} {j : Nat}
theorem ev_lslice' {value : Expr} {e1 e2 : Option Expr} {p' : Pos} {i k : Option Int} {ys : List PV} (ho : Ev C lo st value (.loc j) st1) (h1 : PartIs C lo st1 e1 i) (h2 : PartIs C lo st1 e2 k) (hj : st1[j]? = some (.list xs))
    (hy : ∀ (ρ : List Addr) (F : Frz) (vs : Array Value), Reps ρ F vs.toList xs → Reps ρ F (slicePick vs i k none).toList ys) :
    Ev C lo st (.Subscript value (.Slice e1 e2 none p') pos) (.loc st1.length) (st1 ++ [.list ys]) := by
  refine .mk fun sh ρ F S Q hQ => ?_
  refine sub_list_slice (ho.run sh ρ F S _ fun v h1' t1 ρ1 F1 r1 S1 p1 f1 => h1.use S1 fun u h2' t2 ρ2 F2 r2 S2 p2 f2 => h2.use S2 fun w h3' t3 ρ3 F3 r3 S3 p3 f3 => ?_)
  obtain ⟨a, rfl, ha⟩ := r1.toLoc
  obtain ⟨vs, n, hv, hr, hz⟩ := S3.s.list (pre_get (p2.trans p3) ha) hj
  refine ⟨a, vs, i, k, rfl, ⟨_, hv, rfl, n, rfl⟩, by rw [sizeLine_eq]; omega, r2, r3, ?_⟩
  have pre : ρ3 <+: ρ3 ++ [h3'.objs.size + 1] := List.prefix_append _ _
  have S4 := S3.addCell (a := h3'.objs.size + 1) (c := .list ys) (Heap.get?_none_of_le (Nat.le_succ _)) (h' := (h3'.push { cls := .type "slice", data := .fields #[u, w, .none] }).push (listOf (slicePick vs i k none) 0))
    ⟨_, 0, by have := Heap.get?_push_size (h3'.push { cls := .type "slice", data := .fields #[u, w, .none] }) (o := listOf (slicePick vs i k none) 0) rfl; rw [Heap.size_push] at this; exact this, (hy ρ3 F3 vs hr).mono pre (FLe.refl _), Nat.le_trans (slicePick_size_le ..) hz⟩
    (fun b q e => Heap.get?_push_of_some _ (Heap.get?_push_of_some _ e))
  refine hQ _ _ _ (ρ3 ++ [h3'.objs.size + 1]) F3 (.loc ?_) S4 (((p1.trans p2).trans p3).trans pre) ((f1.trans f2).trans f3)
  rw [List.getElem?_append_right (by rw [S3.s.len]; exact Nat.le_refl _), S3.s.len, Nat.sub_self]; rfl
end
end Mine
end
section
open PySem PySem.W PySem.Calls PyProof.Rows PySem.Builtin.Str
set_option Elab.async false
set_option autoImplicit false
set_option linter.all false
set_option maxRecDepth 100000
namespace Mine
/-- the pool: its first number, the cells behind it -/
noncomputable abbrev Pool := Int × List Int
noncomputable def Pool.pv (p : Pool) : List PV := .int p.1 :: p.2.map .int
noncomputable def dr (p : Pool) (lim : Int) : Int × Pool :=
  match p.2.getLast? with
  | none => ((((p.1 * 75 + 74).fmod 65537).fdiv 8).fmod lim, (p.1 * 75 + 74).fmod 65537, [])
  | some c => (c.fmod lim, (p.1 * 75 + 74 + c.fmod 1009).fmod 65537, if 1000000 ≤ c.fdiv lim then p.2.dropLast ++ [c.fdiv lim] else p.2.dropLast)
theorem dr_range {p : Pool} {lim : Int} (h : 1 ≤ lim) : 0 ≤ (dr p lim).1 ∧ (dr p lim).1 < lim := by
  unfold dr
  split
  · exact ⟨Int.fmod_nonneg_of_pos _ (by omega), Int.fmod_lt_of_pos _ (by omega)⟩
  · exact ⟨Int.fmod_nonneg_of_pos _ (by omega), Int.fmod_lt_of_pos _ (by omega)⟩
theorem dr_len {p : Pool} {lim : Int} : (dr p lim).2.2.length ≤ p.2.length := by
  unfold dr
  split
  · exact Nat.zero_le _
  · rename_i c hc
    have : p.2 ≠ [] := by intro h; rw [h] at hc; cases hc
    have := List.length_pos_iff.mpr this
    split
    · show (_ ++ [_]).length ≤ _
      rw [List.length_append, List.length_dropLast, List.length_singleton]; omega
    · show (List.dropLast _).length ≤ _
      rw [List.length_dropLast]; omega
section
variable {P : Pg} {lv : Nat} {st : List Cell} {jp : Nat} {p : Pool} {lim : Int}
theorem drawn_cl (hj : st[jp]? = some (.list p.pv)) (h1 : 1 ≤ lim) (h2 : lim ≤ 1000000) (hz : p.2.length ≤ 900) : Cl P tabs (lv + 1) (.ref 702) [.loc jp, .int lim] st (.int (dr p lim).1) (st.set jp (.list (dr p lim).2.pv)) := by
  refine cl_def ok_law_drawn (k := 30) rfl rfl fun A L => ?_
  conv => arg 4; whnf
  have hjl := lt_of_get hj
  have hlim : lim ≠ 0 := by omega
  have hlim2 : lim.natAbs < 1073741824 := by omega
  obtain ⟨p0, cs⟩ := p
  rcases List.eq_nil_or_concat cs with rfl | ⟨cs, c, rfl⟩
  · refine ex_if_t ((tst_cmp (ev_bf 0 3 boot_len (evs_cons (ev_name 0) evs_nil) (cl_lenl hj)) ev_int c_eq).cast (by rfl)) ?_
    refine ex_setitem (ev_bin (ev_bin (ev_bin (ev_sub (ev_name 0) ev_int (i_list hj (by decide) rfl)) ev_int (b_mul (.inr (by decide)))) ev_int b_add) ev_int (b_fmod (by decide) (by decide))) (ev_name 0) ev_int hj (by decide) (by show (0 : Int) < ((_ + 1 : Nat) : Int); omega) ?_
    refine ex_ret (ev_bin (ev_bin (ev_sub (ev_name 0) ev_int (i_list (xs := [.int ((p0 * 75 + 74).fmod 65537)]) (by rw [List.getElem?_set_self hjl]; rfl) (by decide) rfl)) ev_int (b_fdiv (by decide) (by decide))) (ev_name 1) (b_fmod hlim hlim2)) ⟨rfl, rfl⟩
  · rw [List.concat_eq_append] at *
    have hpv : Pool.pv (p0, cs ++ [c]) = (PV.int p0 :: cs.map .int) ++ [.int c] := by simp [Pool.pv]
    have hd : dr (p0, cs ++ [c]) lim = (c.fmod lim, (p0 * 75 + 74 + c.fmod 1009).fmod 65537, if 1000000 ≤ c.fdiv lim then cs ++ [c.fdiv lim] else cs) := by
      unfold dr; simp
    rw [hd]
    rw [hpv] at hj
    refine ex_skip ((tst_cmp (ev_bf 0 3 boot_len (evs_cons (ev_name 0) evs_nil) (cl_lenl hj)) ev_int c_eq).cast ?_) ?_
    · rw [beq_eq_false_iff_ne]; simp; omega
    refine ex_assign 2 (ev_pop (ev_name 0) hj) ?_
    have hj2 : (st.set jp (.list (PV.int p0 :: cs.map .int)))[jp]? = some (.list (PV.int p0 :: cs.map .int)) := List.getElem?_set_self hjl
    have hzc : cs.length ≤ 899 := by
      have : (cs ++ [c]).length ≤ 900 := hz
      rw [List.length_append, List.length_singleton] at this; omega
    have fin : ∀ (cs' : List Int), Ex (mkCx P tabs A fd_law_drawn L 702 ["pool", "limit", "cell"] ["len"] lv) [some (.loc jp), some (.int lim), some (.int c)] (st.set jp (.list (PV.int p0 :: cs'.map .int))) ((bodyOf 105).drop 3) (RetIs (.int (c.fmod lim)) (st.set jp (.list (Pool.pv ((p0 * 75 + 74 + c.fmod 1009).fmod 65537, cs'))))) := by
      intro cs'
      conv => arg 4; whnf
      have hj3 : (st.set jp (.list (PV.int p0 :: cs'.map .int)))[jp]? = some (.list (PV.int p0 :: cs'.map .int)) := List.getElem?_set_self hjl
      refine ex_setitem (ev_bin (ev_bin (ev_bin (ev_bin (ev_sub (ev_name 0) ev_int (i_list hj3 (by decide) rfl)) ev_int (b_mul (.inr (by decide)))) ev_int b_add) (ev_bin (ev_name 2) ev_int (b_fmod (by decide) (by decide))) b_add) ev_int (b_fmod (by decide) (by decide))) (ev_name 0) ev_int hj3 (by decide) (by show (0 : Int) < ((_ + 1 : Nat) : Int); omega) ?_
      refine ex_ret (ev_bin (ev_name 2) (ev_name 1) (b_fmod hlim hlim2)) ⟨rfl, ?_⟩
      rw [List.set_set]; rfl
    refine ex_if (tst_cmp (ev_bin (ev_name 2) (ev_name 1) (b_fdiv hlim hlim2)) ev_int c_ge) (fun h => ?_) fun h => ex_nil ?_
    · have h' : 1000000 ≤ c.fdiv lim := of_decide_eq_true h
      rw [if_pos h']
      refine ex_expr (ev_append (ev_name 0) (ev_bin (ev_name 2) (ev_name 1) (b_fdiv hlim hlim2)) hj2 (by simp; omega) ⟨_, hj2⟩) (ex_nil ?_)
      have := fin (cs ++ [c.fdiv lim])
      rw [List.map_append] at this
      rw [List.set_set]
      exact this
    · have h' : ¬ 1000000 ≤ c.fdiv lim := of_decide_eq_false h
      rw [if_neg h']
      exact fin cs
end
section
variable {P : Pg} {lv : Nat} {st : List Cell} {js : Nat} {ns : List Int}
/-- a list of ints as an object -/
noncomputable def IntsObj (o : Obj) (ns : List Int) : Prop := ∃ vs : Array Value, o = listOf vs 0 ∧ IntsAre vs.toList ns ∧ vs.size ≤ 1000
theorem reps_of_ints {ρ : List Addr} {F : Frz} {vs : List Value} {ns : List Int} (h : IntsAre vs ns) : Reps ρ F vs (ns.map .int) := by
  induction h with
  | nil => exact .nil
  | cons n t _ ih => exact .cons (.int _ _) ih
theorem cl_copyO {T : Tabs} {o : Obj} (hj : st[js]? = some (.obj o)) (ho : IntsObj o ns) : Cl P T lv (.type "list") [.loc js] st (.loc st.length) (st ++ [.list (ns.map .int)]) := by
  intro A sh ρ F rs G hA _ _ S hr Q hQ
  obtain ⟨_, rfl, h1⟩ := hr.one; obtain ⟨a, rfl, hp⟩ := h1.toLoc
  obtain ⟨vs, rfl, hI, hz⟩ := ho
  obtain ⟨a', e, hv⟩ := S.cells js _ hj
  rw [hp] at e; cases e
  refine call_list_seq (hsz := by rw [sizeLine_eq]; omega) _ (.inl rfl) hv rfl rfl fun h' c' hk hD => ?_
  have pre : ρ <+: ρ ++ [sh.heap.objs.size] := List.prefix_append _ _
  have S2 := S.addCell (c := .list (ns.map .int)) (get_size (h := sh.heap)) (h' := h') ⟨vs, c', hD, reps_of_ints hI, hz⟩ hk
  refine hQ _ h' _ _ F (.loc ?_) S2 pre (FLe.refl _)
  rw [List.getElem?_append_right (by rw [S.len]; exact Nat.le_refl _), S.len, Nat.sub_self]; rfl
noncomputable def poolG (ns : List Int) : List Cell := [.list (ns.map .int), .list ((ns.take 40).map .int), .list ((ns.take 40).map .int).reverse, .list [.int 5]]
theorem pool_cl {o : Obj} (hj : st[js]? = some (.obj o)) (ho : IntsObj o ns) : Cl P tabs (lv + 1) (.ref 695) [.loc js] st (.loc (st.length + 4)) (st ++ poolG ns ++ [.list (Pool.pv (5, (ns.take 40).reverse))]) := by
  unfold poolG
  refine cl_def ok_law_pool (k := 29) rfl rfl fun A L => ?_
  conv => arg 4; whnf
  generalize hms : ns.take 40 = ms
  have hmz : ms.length ≤ 40 := by rw [← hms, List.length_take]; omega
  have l1 : (st ++ [Cell.list (ns.map .int)]).length = st.length + 1 := by simp
  have l2 : (st ++ [Cell.list (ns.map .int)] ++ [Cell.list (ms.map .int)]).length = st.length + 2 := by simp
  have l3 : ∀ c : Cell, (st ++ [Cell.list (ns.map .int)] ++ [Cell.list (ms.map .int)] ++ [c]).length = st.length + 3 := by intro c; simp
  refine ex_assign_compL (xs := ms.map .int) (stB := st ++ [Cell.list (ns.map .int)] ++ [Cell.list (ms.map .int)] ++ [Cell.list (ms.map .int)]) (cl := []) (gk := ["int"]) (ck := []) 1
    (ev_lslice' (i := none) (k := some ((40 : Nat) : Int)) (ys := ms.map .int) (ev_callt (lv := 0) (ev_blt 0 9 boot_list) (evs_cons (ev_name 0) evs_nil) (cl_copyO hj ho) (Nat.zero_le _)) trivial (show PartIs _ _ _ (some _) (some _) from ev_int) gA (fun ρ F vs h => ?_)) gA ?_ (fun L2 => ?_) ?_
  · have := pick_upto (n := 40) vs h
    rw [← List.map_take, hms] at this; exact this
  · exact ⟨rfl, by decide +kernel, rfl, by decide +kernel, rfl, by intro y hy; simp only [List.mem_cons, List.not_mem_nil, or_false] at hy; subst hy; rfl, (fun _ h => nomatch h), (fun _ h => nomatch h)⟩
  · refine cpl_run (rs := ms.map .int) (fun j => st ++ [Cell.list (ns.map .int)] ++ [Cell.list (ms.map .int)] ++ [.list ((ms.map PV.int).take j)]) rfl rfl (by rw [List.length_map]; omega) rfl (by rw [List.take_length]) gA (fun k _ => gM) fun j p r hp hr hm => ?_
    rw [hp] at hr; cases hr
    rw [List.getElem?_map] at hp
    obtain ⟨x, hx, rfl⟩ := Option.map_eq_some_iff.mp hp
    refine ⟨_, ev_callt (lv := 0) (ev_blt 0 8 boot_int) (evs_cons (ev_name 0) evs_nil) cl_int (Nat.zero_le _), hm, ?_⟩
    rw [setA]
  · refine ex_expr (ev_reverse (ev_name 1) gA) ?_
    rw [setA]
    refine ex_ret (ev_addl (xs := [.int 5]) (ys := (ms.map PV.int).reverse) (ev_list (evs_cons ev_int evs_nil) (Nat.le_of_ble_eq_true rfl)) (ev_name 1) ?_ ?_ ?_) ⟨?_, ?_⟩
    · exact gA
    · exact gL gA
    · simp; omega
    · rw [List.length_append, l3]; rfl
    · simp [Pool.pv, List.map_reverse]
end
end Mine
end
section
open PySem PySem.W PySem.Calls PyProof.Rows PySem.Builtin.Str
set_option Elab.async false
set_option autoImplicit false
set_option linter.all false
set_option maxRecDepth 100000
namespace Mine
/-- the script: its numbers, its object -/
structure Scr where
  ns : List Int
  o : Obj
noncomputable def natsV (l : List Nat) : List PV := l.map fun (w : Nat) => .int w
noncomputable def preL (sc : Scr) (p : Pool) (ws ns : List Nat) : List Cell :=
  [.tab [defPos 11, defPos 10, defPos 9, defPos 8, defPos 7], .obj sc.o, .cell (some (.loc 7))] ++ poolG sc.ns ++ [.list p.pv, .list (natsV ws), .list (natsV ns)]
noncomputable def strangeL : List PV := [.str "$displayd", .str "display", .str "$finish", .str "$strobex", .str "$monitoron", .str "$writebh"]
noncomputable def estL : List (Str × PV) := thrE (.int 7) (.loc 43) (.int 0) (.loc 44) (.str "top.t") 45
noncomputable def postL (dout dev dmon late : List PV) : List Cell :=
  [.list [], .list [], .dict estL, .inst thr 45, .list [], .list [], .dict [], .list strangeL, .list dout, .list dev, .list dmon, .list late]
/-- the state in the law's loop -/
noncomputable def W (sc : Scr) (ws : List Nat) (p : Pool) (ns : List Nat) (out ev mon lent dout dev dmon late : List PV) (g : List Cell) : List Cell :=
  KS (preL sc p ws ns) (postL dout dev dmon late ++ g) 10 8 9 out ev mon lent lent
noncomputable def LO (t stem rad giv spot sort kept name told which on ref err : Option PV) : List (Option PV) :=
  [some (.loc 1), t, some (.loc 8), some (.loc 9), some (.loc 17), some (.loc 46), some (.loc 50), some (.loc 51), some (.loc 52), some (.loc 53), some (.loc 54), stem, rad, giv, spot, sort, kept, name, told, which, on, ref, err]
noncomputable def CL (P : Pg) (A : Around) (L : Addr) : Cx := mkCxC P tabs A fd_law L 740 ["script", "turn", "wides", "numbers", "kernel", "thread", "strange", "due_out", "due_events", "due_monitors", "late", "stem", "radix", "given", "spot", "sort", "kept", "name", "told", "which", "other_name", "refused", "error"]
  ["_law_pool", "range", "_law_kernel", "Thread", "_law_drawn", "list", "show_task", "_law_shown", "run_late", "DesignError"] ["pool"] 12 2
noncomputable def turnB : List Stmt := match (bodyOf 111)[10]? with | some (Stmt.For _ _ b _ _) => b | _ => []
section
variable {sc : Scr} {ws ns : List Nat} {p p' : Pool} {out ev mon lent dout dev dmon late : List PV} {g : List Cell}
theorem W_app {g' : List Cell} : W sc ws p ns out ev mon lent dout dev dmon late g ++ g' = W sc ws p ns out ev mon lent dout dev dmon late (g ++ g') := by
  unfold W; rw [KS_app, appL]
theorem W_len : (W sc ws p ns out ev mon lent dout dev dmon late g).length = 55 + g.length := by
  unfold W; rw [KS_len (n := 10) rfl, List.length_append]; show 10 + 33 + (12 + g.length) = _; omega
theorem W_get (k : Nat) {c : Cell} (h : g[k]? = some c) : (W sc ws p ns out ev mon lent dout dev dmon late g)[55 + k]? = some c := by
  have e : W sc ws p ns out ev mon lent dout dev dmon late g = W sc ws p ns out ev mon lent dout dev dmon late [] ++ g := by rw [W_app]; rfl
  rw [e]; exact gK' (by rw [W_len]; rfl) k h
theorem W_set (k : Nat) {c : Cell} : (W sc ws p ns out ev mon lent dout dev dmon late g).set (55 + k) c = W sc ws p ns out ev mon lent dout dev dmon late (g.set k c) := by
  have e : W sc ws p ns out ev mon lent dout dev dmon late g = W sc ws p ns out ev mon lent dout dev dmon late [] ++ g := by rw [W_app]; rfl
  rw [e, setK' (by rw [W_len]; rfl) k, W_app]; rfl
section
variable {P : Pg} {A : Around} {L : Addr} {lo : List (Option PV)}
theorem ev_draw {p1 p2 p3 pos : Pos} {k : Nat} {lim : Int} (hz : p.2.length ≤ 900) (h1 : 1 ≤ lim) (h2 : lim ≤ 1000000) :
    Ev (CL P A L) lo (W sc ws p ns out ev mon lent dout dev dmon late g) (.Call (.Name "_law_drawn" p1) [.Name "pool" p2, .Constant (.int lim) k p3] [] pos) (.int (dr p lim).1) (W sc ws (dr p lim).2 ns out ev mon lent dout dev dmon late g) :=
  ev_call (k := 30) (lv := 1) (ev_glob 4 30) (evs_cons (ev_cname 0 rfl rfl) (evs_cons ev_int evs_nil)) (drawn_cl (lv := 0) rfl h1 h2 hz) (by show 1 ≤ 12; decide) rfl
theorem ev_drawA {p1 p2 p3 pos : Pos} {k : Nat} {lim : Int} {g' : List Cell} (hz : p.2.length ≤ 900) (h1 : 1 ≤ lim) (h2 : lim ≤ 1000000) :
    Ev (CL P A L) lo (W sc ws p ns out ev mon lent dout dev dmon late g ++ g') (.Call (.Name "_law_drawn" p1) [.Name "pool" p2, .Constant (.int lim) k p3] [] pos) (.int (dr p lim).1) (W sc ws (dr p lim).2 ns out ev mon lent dout dev dmon late g ++ g') := by
  rw [W_app, W_app]; exact ev_draw hz h1 h2
end
end
/-- the kinds of calls -/
inductive Sm where
  | strobe | display | write | monitor | other
noncomputable def Sm.s : Sm → Str
  | .strobe => "$strobe"
  | .display => "$display"
  | .write => "$write"
  | .monitor => "$monitor"
  | .other => "other"
noncomputable def smOf : Nat → Sm
  | 0 => .strobe
  | 1 => .display
  | 2 => .write
  | 3 => .monitor
  | 4 => .strobe
  | _ => .other
noncomputable def rdOf : Nat → Rd
  | 0 => .d
  | 1 => .b
  | 2 => .o
  | _ => .h
noncomputable def stems : List PV := [.str "$strobe", .str "$display", .str "$write", .str "$monitor", .str "$strobe", .str "other"]
noncomputable def rads : List PV := [.str "d", .str "b", .str "o", .str "h"]
theorem stems_at : ∀ n, n < 6 → stems[n]? = some (.str (smOf n).s)
  | 0, _ => rfl | 1, _ => rfl | 2, _ => rfl | 3, _ => rfl | 4, _ => rfl | 5, _ => rfl
  | n + 6, h => by omega
theorem rads_at : ∀ n, n < 4 → rads[n]? = some (.str (rdOf n).s)
  | 0, _ => rfl | 1, _ => rfl | 2, _ => rfl | 3, _ => rfl
  | n + 4, h => by omega
section
variable {P : Pg} {A : Around} {L : Addr} {sc : Scr} {ws ns : List Nat} {p : Pool} {out ev mon lent dout dev dmon late : List PV} {g : List Cell} {K : Out → Prop} {x11 x12 x13 x14 x15 x16 x17 x18 x19 x20 x21 x22 : Option PV}
theorem dr_toNat {p : Pool} {lim : Int} {n : Nat} (h1 : 1 ≤ lim) (h : lim = n) : (dr p lim).1.toNat < n := by
  have := dr_range (p := p) h1; omega
theorem seg1 (t : Nat) (hz : p.2.length ≤ 40) (hk : ∀ (sm : Sm) (r : Rd) (p' : Pool) (g' : List Cell), p'.2.length ≤ 40 → (t = 0 → sm = .strobe) →
      Ex (CL P A L) (LO (some (.int t)) (some (.str sm.s)) (some (.str r.s)) x13 x14 x15 x16 x17 x18 x19 x20 x21 x22) (W sc ws p' ns out ev mon lent dout dev dmon late (g ++ g')) (turnB.drop 2) K) :
    Ex (CL P A L) (LO (some (.int t)) x11 x12 x13 x14 x15 x16 x17 x18 x19 x20 x21 x22) (W sc ws p ns out ev mon lent dout dev dmon late g) turnB K := by
  conv => arg 4; whnf
  have step : ∀ (sm : Sm) (p1 : Pool), p1.2.length ≤ 40 → (t = 0 → sm = .strobe) →
      Ex (CL P A L) (LO (some (.int t)) (some (.str sm.s)) x12 x13 x14 x15 x16 x17 x18 x19 x20 x21 x22) (W sc ws p1 ns out ev mon lent dout dev dmon late (g ++ [.list stems])) (turnB.drop 1) K := by
    intro sm p1 hz1 ht
    conv => arg 4; whnf
    have hr := dr_range (p := p1) (lim := 4) (by decide)
    refine ex_assign 12 (r := .str (rdOf (dr p1 4).1.toNat).s) (ev_sub (st1 := W sc ws p1 ns out ev mon lent dout dev dmon late (g ++ [Cell.list stems]) ++ [Cell.list rads]) (ev_list (evs_cons ev_str (evs_cons ev_str (evs_cons ev_str (evs_cons ev_str evs_nil)))) (by exact Nat.le_of_ble_eq_true rfl)) (ev_drawA (by omega) (by decide) (by decide)) ?_) ?_
    · exact i_list (xs := rads) (by rw [W_len, ← W_len (g := g ++ [Cell.list stems]) (p := (dr p1 4).2)]; exact gA) hr.1 (rads_at _ (dr_toNat (by decide) rfl))
    rw [W_app]
    rw [appL (a := g)]
    exact hk sm _ _ _ (Nat.le_trans dr_len hz1) ht
  rcases Nat.eq_zero_or_pos t with h0 | h0
  · subst h0
    have e2 : Tst (CL P A L) (LO (some (.int ((0 : Nat) : Int))) x11 x12 x13 x14 x15 x16 x17 x18 x19 x20 x21 x22) (W sc ws p ns out ev mon lent dout dev dmon late g ++ [Cell.list stems]) (match turnB[0]? with | some (Stmt.Assign _ (.Subscript _ (.IfExp t _ _ _) _) _) => t | _ => default) false (W sc ws p ns out ev mon lent dout dev dmon late g ++ [Cell.list stems]) := by
      conv => arg 4; whnf
      exact (tst_cmp (ev_name 1) ev_int c_gt).cast (decide_eq_false (by omega))
    refine ex_assign 11 (r := .str "$strobe") (ev_sub (r := .str "$strobe") (st1 := W sc ws p ns out ev mon lent dout dev dmon late g ++ [Cell.list stems]) (ev_list (evs_cons ev_str (evs_cons ev_str (evs_cons ev_str (evs_cons ev_str (evs_cons ev_str (evs_cons ev_str evs_nil)))))) (by exact Nat.le_of_ble_eq_true rfl)) (ev_ifexp (r := .int 0) e2 (fun h => nomatch h) (fun _ => ev_int)) ?_) ?_
    · exact i_list (i := 0) (xs := stems) gA (by decide) rfl
    rw [W_app]
    exact step .strobe p hz fun _ => rfl
  · have hr := dr_range (p := p) (lim := 6) (by decide)
    have e2 : Tst (CL P A L) (LO (some (.int (t : Int))) x11 x12 x13 x14 x15 x16 x17 x18 x19 x20 x21 x22) (W sc ws p ns out ev mon lent dout dev dmon late g ++ [Cell.list stems]) (match turnB[0]? with | some (Stmt.Assign _ (.Subscript _ (.IfExp t _ _ _) _) _) => t | _ => default) true (W sc ws p ns out ev mon lent dout dev dmon late g ++ [Cell.list stems]) := by
      conv => arg 4; whnf
      exact (tst_cmp (ev_name 1) ev_int c_gt).cast (decide_eq_true (by omega))
    have e3 : Ev (CL P A L) (LO (some (.int (t : Int))) x11 x12 x13 x14 x15 x16 x17 x18 x19 x20 x21 x22) (W sc ws p ns out ev mon lent dout dev dmon late g ++ [Cell.list stems]) (match turnB[0]? with | some (Stmt.Assign _ (.Subscript _ e _) _) => e | _ => default) (.int (dr p 6).1) (W sc ws (dr p 6).2 ns out ev mon lent dout dev dmon late g ++ [Cell.list stems]) := by
      conv => arg 4; whnf
      refine ev_ifexp e2 (fun _ => ?_) (fun h => nomatch h)
      exact ev_drawA (by omega) (by decide) (by decide)
    conv at e3 => arg 4; whnf
    refine ex_assign 11 (r := .str (smOf (dr p 6).1.toNat).s) (ev_sub (st1 := W sc ws p ns out ev mon lent dout dev dmon late g ++ [Cell.list stems]) (ev_list (evs_cons ev_str (evs_cons ev_str (evs_cons ev_str (evs_cons ev_str (evs_cons ev_str (evs_cons ev_str evs_nil)))))) (by exact Nat.le_of_ble_eq_true rfl)) e3 ?_) ?_
    · exact i_list (xs := stems) (by rw [W_len, ← W_len (g := g) (p := (dr p 6).2)]; exact gA) hr.1 (stems_at _ (dr_toNat (by decide) rfl))
    rw [W_app]
    exact step _ _ (Nat.le_trans dr_len hz) fun h => by omega
end
end Mine
end
section
open PySem PySem.W PySem.Calls PyProof.Rows PySem.Builtin.Str
set_option Elab.async false
set_option autoImplicit false
set_option linter.all false
set_option maxRecDepth 100000
set_option maxHeartbeats 1000000
namespace Mine
noncomputable def tpOf : Nat → Tp
  | 0 => .ab
  | 1 => .m
  | 2 => .d
  | 3 => .h
  | _ => .c
noncomputable def texts : List PV := [.str "ab", .str "%m.", .str "%0d;", .str "<%h%%", .str "100%"]
theorem texts_at : ∀ n, n < 5 → texts[n]? = some (.str (tpOf n).s)
  | 0, _ => rfl | 1, _ => rfl | 2, _ => rfl | 3, _ => rfl | 4, _ => rfl
  | n + 5, h => by omega
section
variable {sc : Scr} {ws ns : List Nat} {p p' : Pool} {out ev mon lent dout dev dmon late : List PV} {g g2 : List Cell} {c d : Cell}
theorem W_giv : (W sc ws p ns out ev mon lent dout dev dmon late (g ++ [c] ++ g2))[55 + g.length]? = some c := W_get g.length gM
theorem W_setg : (W sc ws p ns out ev mon lent dout dev dmon late (g ++ [c] ++ g2)).set (55 + g.length) d = W sc ws p ns out ev mon lent dout dev dmon late (g ++ [d] ++ g2) := by
  rw [W_set, setL]
theorem natsV_at {ws : List Nat} {n w : Nat} (h : ws[n]? = some w) : (natsV ws)[((n : Nat) : Int).toNat]? = some (.int w) := by
  rw [Int.toNat_natCast, natsV, List.getElem?_map, h]; rfl
end
section
variable {P : Pg} {A : Around} {L : Addr} {sc : Scr} {ws ns : List Nat} {p : Pool} {out ev mon lent dout dev dmon late : List PV} {g g2 : List Cell} {K : Out → Prop} {t stem rad x13 x14 x15 x16 x17 x18 x19 x20 x21 x22 : Option PV}
noncomputable def spotB : List Stmt := match turnB[4]? with | some (Stmt.For _ _ b _ _) => b | _ => []
theorem seg_spot (sg : Sg ws ns) {l : List Gi} (hz : p.2.length ≤ 40) (hl : l.length ≤ 50) (hok : ∀ v ∈ l, v.ok) (hk : ∀ (v : Gi) (p' : Pool) (g' : List Cell) (y15 : Option PV), v.ok → p'.2.length ≤ 40 →
      K (.next (LO t stem rad (some (.loc (55 + g.length))) x14 y15 x16 x17 x18 x19 x20 x21 x22) (W sc ws p' ns out ev mon lent dout dev dmon late (g ++ [.list ((l ++ [v]).map Gi.pv)] ++ (g2 ++ g'))))) :
    Ex (CL P A L) (LO t stem rad (some (.loc (55 + g.length))) x14 x15 x16 x17 x18 x19 x20 x21 x22) (W sc ws p ns out ev mon lent dout dev dmon late (g ++ [.list (l.map Gi.pv)] ++ g2)) spotB K := by
  conv => arg 4; whnf
  have hr := dr_range (p := p) (lim := 9) (by decide)
  obtain ⟨n, hn⟩ := Int.eq_ofNat_of_zero_le hr.1
  have hn9 : n < 9 := by omega
  have hz1 : (dr p 9).2.2.length ≤ 40 := Nat.le_trans dr_len hz
  have hlz : (l.map Gi.pv).length < 1000 := by rw [List.length_map]; omega
  refine ex_assign 15 (ev_draw (by omega) (by decide) (by decide)) ?_
  rw [hn]
  generalize hp1 : (dr p 9).2 = p1 at hz1
  have lm : ∀ v : Gi, (l ++ [v]).map Gi.pv = l.map Gi.pv ++ [v.pv] := fun v => by simp
  by_cases h3 : n < 3
  · refine ex_if_t ((tst_cmp (ev_name 15 (a := .int (n : Int))) ev_int c_lt).cast (decide_eq_true (by omega))) ?_
    obtain ⟨w, a, e1, e2, e3, e4, h1, h2, h4⟩ := sg.at h3
    have hb := dr_range (p := p1) (lim := 2) (by decide)
    refine ex_expr (ev_append (p := (Gi.e n w ((dr p1 2).1 == 1)).pv) (ev_name 13) (ev_tuple (evs_cons ev_str (evs_cons (ev_tuple (evs_cons ev_str (evs_cons (ev_sub (ev_name 2) (ev_name 15) (i_list (xs := natsV ws) rfl (by omega) (natsV_at e1))) (evs_cons (ev_name 15) evs_nil))) (by exact Nat.le_of_ble_eq_true rfl)) (evs_cons (ev_cmp (ev_draw (by omega) (by decide) (by decide)) ev_int c_eq) evs_nil))) (by exact Nat.le_of_ble_eq_true rfl)) W_giv hlz ⟨_, W_giv⟩) ?_
    rw [W_setg, ← lm]
    refine ex_nil (ex_nil ?_)
    have := hk (Gi.e n w ((dr p1 2).1 == 1)) (dr p1 2).2 [] (some (.int n)) h3 (Nat.le_trans dr_len hz1)
    rw [List.append_nil] at this; exact this
  · refine ex_if_f ((tst_cmp (ev_name 15 (a := .int (n : Int))) ev_int c_lt).cast (decide_eq_false (by omega))) ?_
    by_cases h4 : n = 3
    · refine ex_if_t ((tst_cmp (ev_name 15 (a := .int (n : Int))) ev_int c_eq).cast (beq_iff_eq.mpr (by omega))) ?_
      refine ex_expr (ev_append (p := Gi.non.pv) (ev_name 13) (ev_tuple (evs_cons ev_str evs_nil) (by exact Nat.le_of_ble_eq_true rfl)) W_giv hlz ⟨_, W_giv⟩) ?_
      rw [W_setg, ← lm]
      refine ex_nil (ex_nil (ex_nil ?_))
      have := hk Gi.non p1 [] (some (.int n)) trivial hz1
      rw [List.append_nil] at this; exact this
    · refine ex_if_f ((tst_cmp (ev_name 15 (a := .int (n : Int))) ev_int c_eq).cast (beq_eq_false_iff_ne.mpr (by omega))) ?_
      have e5 : ((n : Int) - 4).toNat = n - 4 := by omega
      have hge : 4 ≤ n := by omega
      have hv0 : (W sc ws p1 ns out ev mon lent dout dev dmon late (g ++ [.list (l.map Gi.pv)] ++ g2))[55 + g.length]? = some (.list (l.map Gi.pv)) := W_giv
      have hv1 : (W sc ws p1 ns out ev mon lent dout dev dmon late (g ++ [.list (l.map Gi.pv)] ++ g2) ++ [.list texts])[55 + g.length]? = some (.list (l.map Gi.pv)) := gL W_giv
      generalize hS : W sc ws p1 ns out ev mon lent dout dev dmon late (g ++ [.list (l.map Gi.pv)] ++ g2) = S at hv0 hv1
      refine ex_expr (ev_append (p := (Gi.txt (tpOf (n - 4))).pv) (st2 := S ++ [.list texts]) (ev_name 13) (ev_tuple (evs_cons ev_str (evs_cons (ev_sub (st2 := S ++ [.list texts]) (ev_list (evs_cons ev_str (evs_cons ev_str (evs_cons ev_str (evs_cons ev_str (evs_cons ev_str evs_nil))))) (by exact Nat.le_of_ble_eq_true rfl)) (ev_bin (ev_name 15) ev_int b_sub) (i_list (xs := texts) (by exact gA) (by omega) (by rw [e5]; exact texts_at _ (by omega)))) evs_nil)) (by exact Nat.le_of_ble_eq_true rfl)) hv1 hlz ⟨_, hv0⟩) ?_
      subst hS
      rw [W_app, appL (a := g ++ [Cell.list (l.map Gi.pv)]), W_setg, ← lm]
      refine ex_nil (ex_nil (ex_nil ?_))
      exact hk (Gi.txt (tpOf (n - 4))) p1 [.list texts] (some (.int n)) trivial hz1
theorem seg2 (sg : Sg ws ns) (tn : Nat) (hz : p.2.length ≤ 40) (hk : ∀ (l : List Gi) (b : Bool) (p' : Pool) (g' : List Cell) (y14 y15 : Option PV), l.length ≤ 4 → (∀ v ∈ l, v.ok) → p'.2.length ≤ 40 →
      Ex (CL P A L) (LO (some (.int tn)) stem rad (some (.loc (55 + g.length))) y14 y15 x16 x17 x18 x19 x20 x21 x22) (W sc ws p' ns out ev mon lent dout dev dmon late (g ++ [.list (gPV l b)] ++ g')) (turnB.drop 6) K) :
    Ex (CL P A L) (LO (some (.int tn)) stem rad x13 x14 x15 x16 x17 x18 x19 x20 x21 x22) (W sc ws p ns out ev mon lent dout dev dmon late g) (turnB.drop 2) K := by
  conv => arg 4; whnf
  refine ex_assign 13 (ev_list evs_nil (by decide)) ?_
  rw [W_len, W_app]
  -- the loop and what follows
  have loop : ∀ (l0 : List Gi), l0.length ≤ 1 → (∀ v ∈ l0, v.ok) → Ex (CL P A L) (LO (some (.int tn)) stem rad (some (.loc (55 + g.length))) x14 x15 x16 x17 x18 x19 x20 x21 x22) (W sc ws p ns out ev mon lent dout dev dmon late (g ++ [.list (l0.map Gi.pv)])) (turnB.drop 4) K := by
    intro l0 hl0 hok0
    conv => arg 4; whnf
    have hr := dr_range (p := p) (lim := 4) (by decide)
    have hup : (upto (dr p 4).1.toNat).length ≤ 3 := by simp [upto]; omega
    refine ex_for (it_range (ev_blt 1 7 boot_range) (ev_draw (by omega) (by decide) (by decide)) hr.1 (by omega)) (fo_inv 14 (fun j lo s => ∃ (l : List Gi) (p' : Pool) (g2 : List Cell) (y14 y15 : Option PV), lo = LO (some (.int tn)) stem rad (some (.loc (55 + g.length))) y14 y15 x16 x17 x18 x19 x20 x21 x22 ∧
      s = W sc ws p' ns out ev mon lent dout dev dmon late (g ++ [.list (l.map Gi.pv)] ++ g2) ∧ l.length ≤ 1 + j ∧ (∀ v ∈ l, v.ok) ∧ p'.2.length ≤ 40) rfl ⟨l0, (dr p 4).2, [], x14, x15, rfl, by rw [List.append_nil], by omega, hok0, Nat.le_trans dr_len hz⟩ ?_ ?_)
    · rintro j pv _ _ hj ⟨l, p', g2, y14, y15, rfl, rfl, hl, hok, hz'⟩
      have hj3 : j < 3 := Nat.lt_of_lt_of_le (lt_of_get hj) hup
      refine seg_spot (x14 := some pv) (x15 := y15) sg hz' (by omega) hok fun v p2 g' z15 hv hz2 => ?_
      refine ⟨l ++ [v], p2, g2 ++ g', _, z15, rfl, rfl, by rw [List.length_append]; show _ + 1 ≤ _; omega, fun q hq => ?_, hz2⟩
      rcases List.mem_append.mp hq with z | z
      · exact hok q z
      · cases List.mem_singleton.mp z; exact hv
    · rintro _ _ ⟨l, p', g2, y14, y15, rfl, rfl, hl, hok, hz'⟩
      have hl4 : l.length ≤ 4 := by omega
      have hb := dr_range (p := p') (lim := 2) (by decide)
      show Ex _ _ _ _ _
      by_cases h1 : (dr p' 2).1 = 1
      · have hv0 : (W sc ws (dr p' 2).2 ns out ev mon lent dout dev dmon late (g ++ [.list (l.map Gi.pv)] ++ g2))[55 + g.length]? = some (.list (l.map Gi.pv)) := W_giv
        refine ex_if_t ((tst_cmp (ev_draw (by omega) (by decide) (by decide)) ev_int c_eq).cast (beq_iff_eq.mpr h1)) ?_
        refine ex_expr (ev_append (p := scPV) (ev_name 13) (ev_tuple (evs_cons ev_str (evs_cons ev_str evs_nil)) (by exact Nat.le_of_ble_eq_true rfl)) hv0 (by rw [List.length_map]; omega) ⟨_, hv0⟩) (ex_nil ?_)
        rw [W_setg]
        exact hk l true _ g2 _ _ hl4 hok (Nat.le_trans dr_len hz')
      · refine ex_skip ((tst_cmp (ev_draw (by omega) (by decide) (by decide)) ev_int c_eq).cast (beq_eq_false_iff_ne.mpr h1)) ?_
        have := hk l false (dr p' 2).2 g2 y14 y15 hl4 hok (Nat.le_trans dr_len hz')
        rw [show gPV l false = l.map Gi.pv by simp [gPV]] at this
        exact this
  rcases Nat.eq_zero_or_pos tn with h0 | h0
  · obtain ⟨w, a, e1, e2, e3, e4, h1, h2, h4⟩ := sg.at (i := 0) (by decide)
    refine ex_if_t ((tst_cmp (ev_name 1 (a := .int (tn : Int))) ev_int c_eq).cast (beq_iff_eq.mpr (by omega))) ?_
    have hv0 : (W sc ws p ns out ev mon lent dout dev dmon late (g ++ [.list []]))[55 + g.length]? = some (.list []) := W_get g.length gA
    have hw0 : (W sc ws p ns out ev mon lent dout dev dmon late (g ++ [.list []]))[8]? = some (.list (natsV ws)) := rfl
    have hse : ∀ d, (W sc ws p ns out ev mon lent dout dev dmon late (g ++ [.list []])).set (55 + g.length) d = W sc ws p ns out ev mon lent dout dev dmon late (g ++ [d]) := fun d => by rw [W_set, setA]
    generalize hS : W sc ws p ns out ev mon lent dout dev dmon late (g ++ [.list []]) = S at hv0 hw0 hse
    refine ex_expr (ev_append (p := (Gi.e 0 w false).pv) (ev_name 13) (ev_tuple (evs_cons ev_str (evs_cons (ev_tuple (evs_cons ev_str (evs_cons (ev_sub (ev_name 2) ev_int (i_list (xs := natsV ws) hw0 (by decide) (natsV_at e1))) (evs_cons ev_int evs_nil))) (by exact Nat.le_of_ble_eq_true rfl)) (evs_cons ev_bool evs_nil))) (by exact Nat.le_of_ble_eq_true rfl)) hv0 (by decide) ⟨_, hv0⟩) (ex_nil ?_)
    rw [hse]
    exact loop [.e 0 w false] (Nat.le_refl _) (by intro v hv; cases List.mem_singleton.mp hv; show 0 < 3; decide)
  · refine ex_skip ((tst_cmp (ev_name 1 (a := .int (tn : Int))) ev_int c_eq).cast (beq_eq_false_iff_ne.mpr (by omega))) ?_
    exact loop [] (by decide) (fun _ h => nomatch h)
end
end Mine
end
section
open PySem PySem.W PySem.Calls PyProof.Rows PySem.Builtin.Str
set_option Elab.async false
set_option autoImplicit false
set_option linter.all false
set_option maxRecDepth 100000
set_option maxHeartbeats 1000000
namespace Mine
noncomputable def NameOK (r : Rd) (name : Str) : Sm → Prop
  | .display => rOf name "$display" = some r
  | .write => rOf name "$display" = none ∧ rOf name "$write" = some r
  | .strobe => rOf name "$display" = none ∧ rOf name "$write" = none ∧ rOf name "$strobe" = some r
  | .monitor => rOf name "$display" = none ∧ rOf name "$write" = none ∧ rOf name "$strobe" = none ∧ rOf name "$monitor" = some r
  | .other => rOf name "$display" = none ∧ rOf name "$write" = none ∧ rOf name "$strobe" = none ∧ rOf name "$monitor" = none
noncomputable def rtag : Option Rd → Nat
  | none => 0
  | some .d => 1
  | some .b => 2
  | some .o => 3
  | some .h => 4
theorem of_tag : ∀ {x y : Option Rd}, rtag x = rtag y → x = y
  | none, none, _ => rfl
  | some .d, some .d, _ => rfl
  | some .b, some .b, _ => rfl
  | some .o, some .o, _ => rfl
  | some .h, some .h, _ => rfl
  | none, some .d, h | none, some .b, h | none, some .o, h | none, some .h, h => nomatch h
  | some .d, none, h | some .b, none, h | some .o, none, h | some .h, none, h => nomatch h
  | some .d, some .b, h | some .d, some .o, h | some .d, some .h, h => nomatch h
  | some .b, some .d, h | some .b, some .o, h | some .b, some .h, h => nomatch h
  | some .o, some .b, h | some .o, some .d, h | some .o, some .h, h => nomatch h
  | some .h, some .b, h | some .h, some .o, h | some .h, some .d, h => nomatch h
noncomputable def rdAll : List Rd := [.d, .b, .o, .h]
theorem rd_all (r : Rd) : r ∈ rdAll := by cases r <;> simp [rdAll]
noncomputable def nmOf (sm : Sm) (r : Rd) : Str := if (r.s == ("d" : Str)) = true then sm.s else sm.s ++ r.s
noncomputable def smAll : List Sm := [.display, .write, .strobe, .monitor]
noncomputable def nmTags (name : Str) : List Nat := [rtag (rOf name "$display"), rtag (rOf name "$write"), rtag (rOf name "$strobe"), rtag (rOf name "$monitor")]
theorem nm_ok (r : Rd) : ∀ sm, sm ≠ .other → NameOK r (nmOf sm r) sm := by
  have d : ∀ r ∈ rdAll, nmTags (nmOf .display r) = [rtag (some r), 0, 0, 0] := by decide +kernel
  have w : ∀ r ∈ rdAll, nmTags (nmOf .write r) = [0, rtag (some r), 0, 0] := by decide +kernel
  have s : ∀ r ∈ rdAll, nmTags (nmOf .strobe r) = [0, 0, rtag (some r), 0] := by decide +kernel
  have m : ∀ r ∈ rdAll, nmTags (nmOf .monitor r) = [0, 0, 0, rtag (some r)] := by decide +kernel
  intro sm h
  cases sm with
  | other => exact absurd rfl h
  | display =>
    have := d r (rd_all r)
    simp only [nmTags, List.cons.injEq, and_true] at this
    exact of_tag this.1
  | write =>
    have := w r (rd_all r)
    simp only [nmTags, List.cons.injEq, and_true] at this
    exact ⟨of_tag (y := none) this.1, of_tag this.2.1⟩
  | strobe =>
    have := s r (rd_all r)
    simp only [nmTags, List.cons.injEq, and_true] at this
    exact ⟨of_tag (y := none) this.1, of_tag (y := none) this.2.1, of_tag this.2.2.1⟩
  | monitor =>
    have := m r (rd_all r)
    simp only [nmTags, List.cons.injEq, and_true] at this
    exact ⟨of_tag (y := none) this.1, of_tag (y := none) this.2.1, of_tag (y := none) this.2.2.1, of_tag this.2.2.2⟩
noncomputable def strangeOf : Nat → Str
  | 0 => "$displayd"
  | 1 => "display"
  | 2 => "$finish"
  | 3 => "$strobex"
  | 4 => "$monitoron"
  | _ => "$writebh"
theorem strange_at : ∀ n, n < 6 → strangeL[n]? = some (.str (strangeOf n))
  | 0, _ => rfl | 1, _ => rfl | 2, _ => rfl | 3, _ => rfl | 4, _ => rfl | 5, _ => rfl
  | n + 6, h => by omega
theorem strange_ok (r : Rd) : ∀ n, n < 6 → NameOK r (strangeOf n) .other := by
  have d : ∀ n, n < 6 → nmTags (strangeOf n) = [0, 0, 0, 0] := by decide +kernel
  intro n h
  have := d n h
  simp only [nmTags, List.cons.injEq, and_true] at this
  exact ⟨of_tag (y := none) this.1, of_tag (y := none) this.2.1, of_tag (y := none) this.2.2.1, of_tag (y := none) this.2.2.2⟩
theorem sm_len (sm : Sm) (r : Rd) : sm.s.length + r.s.length ≤ 100 := by cases sm <;> cases r <;> decide +kernel
theorem sm_other (sm : Sm) (h : sm ≠ .other) : (sm.s == ("other" : Str)) = false := by cases sm <;> first | exact absurd rfl h | decide +kernel
section
variable {P : Pg} {A : Around} {L : Addr} {sc : Scr} {ws ns : List Nat} {p : Pool} {out ev mon lent dout dev dmon late : List PV} {g g1 : List Cell} {K : Out → Prop} {t x13 x14 x15 x16 x17 x18 x19 x20 x21 x22 : Option PV} {sm : Sm} {r : Rd} {l : List Gi} {b : Bool}
theorem seg_name {S : List Cell} (hk : Ex (CL P A L) (LO t (some (.str sm.s)) (some (.str r.s)) x13 x14 x15 x16 (some (.str (nmOf sm r))) x18 x19 x20 x21 x22) S (turnB.drop 8) K) :
    Ex (CL P A L) (LO t (some (.str sm.s)) (some (.str r.s)) x13 x14 x15 x16 x17 x18 x19 x20 x21 x22) S (turnB.drop 7) K := by
  conv => arg 4; whnf
  have hlen := sm_len sm r
  have e : Ev (CL P A L) (LO t (some (.str sm.s)) (some (.str r.s)) x13 x14 x15 x16 x17 x18 x19 x20 x21 x22) S (match turnB[7]? with | some (Stmt.Assign _ e _) => e | _ => default) (.str (nmOf sm r)) S := by
    conv => arg 4; whnf
    unfold nmOf
    by_cases hd : (r.s == ("d" : Str)) = true
    · rw [if_pos hd]
      refine ev_ifexp (z := true) (st1 := S) ((tst_cmp (ev_name 12 (a := .str r.s)) ev_str c_eqs).cast hd) (fun _ => ev_name 11) (fun h => nomatch h)
    · rw [if_neg hd]
      have hd' : (r.s == ("d" : Str)) = false := by simpa using hd
      refine ev_ifexp (z := false) (st1 := S) ((tst_cmp (ev_name 12 (a := .str r.s)) ev_str c_eqs).cast hd') (fun h => nomatch h) (fun _ => ev_bin (ev_name 11) (ev_name 12) (b_cat (by rw [sizeLine_eq]; omega)))
  exact ex_assign 17 e hk
theorem seg3 (hz : p.2.length ≤ 40) (hk : ∀ (name : Str) (p' : Pool) (g2 : List Cell) (kk : Nat), NameOK r name sm → p'.2.length ≤ 40 → (g ++ [Cell.list (gPV l b)] ++ g2)[kk]? = some (.list (gPV l b)) →
      Ex (CL P A L) (LO t (some (.str sm.s)) (some (.str r.s)) (some (.loc (55 + g.length))) x14 x15 (some (.loc (55 + kk))) (some (.str name)) x18 x19 x20 x21 x22) (W sc ws p' ns out ev mon lent dout dev dmon late (g ++ [.list (gPV l b)] ++ g2)) (turnB.drop 9) K) :
    Ex (CL P A L) (LO t (some (.str sm.s)) (some (.str r.s)) (some (.loc (55 + g.length))) x14 x15 x16 x17 x18 x19 x20 x21 x22) (W sc ws p ns out ev mon lent dout dev dmon late (g ++ [.list (gPV l b)] ++ g1)) (turnB.drop 6) K := by
  conv => arg 4; whnf
  have hv0 : (W sc ws p ns out ev mon lent dout dev dmon late (g ++ [.list (gPV l b)] ++ g1))[55 + g.length]? = some (.list (gPV l b)) := W_giv
  refine ex_assign 16 (ev_callt (lv := 0) (ev_blt 5 9 boot_list) (evs_cons (ev_name 13) evs_nil) (cl_copy hv0) (Nat.zero_le _)) ?_
  rw [W_len, W_app, appL (a := g ++ [Cell.list (gPV l b)])]
  generalize hkk : (g ++ [Cell.list (gPV l b)] ++ g1).length = kk
  have hkept : (g ++ [Cell.list (gPV l b)] ++ (g1 ++ [Cell.list (gPV l b)]))[kk]? = some (.list (gPV l b)) := by rw [← appL, ← hkk]; exact gA
  generalize g1 ++ [Cell.list (gPV l b)] = g2 at hkept
  have last : ∀ (name : Str), (sm ≠ .other → NameOK r name sm) → Ex (CL P A L) (LO t (some (.str sm.s)) (some (.str r.s)) (some (.loc (55 + g.length))) x14 x15 (some (.loc (55 + kk))) (some (.str name)) x18 x19 x20 x21 x22) (W sc ws p ns out ev mon lent dout dev dmon late (g ++ [.list (gPV l b)] ++ g2)) (turnB.drop 8) K := by
    intro name hn
    conv => arg 4; whnf
    by_cases h : sm = .other
    · subst h
      have hr := dr_range (p := p) (lim := 6) (by decide)
      refine ex_if_t ((tst_cmp (ev_name 11 (a := .str Sm.other.s)) ev_str c_eqs).cast (by decide +kernel)) ?_
      have hs : (W sc ws (dr p 6).2 ns out ev mon lent dout dev dmon late (g ++ [.list (gPV l b)] ++ g2))[50]? = some (.list strangeL) := rfl
      refine ex_assign 17 (ev_sub (ev_name 6) (ev_draw (by omega) (by decide) (by decide)) (i_list hs hr.1 (strange_at _ (dr_toNat (by decide) rfl)))) (ex_nil ?_)
      exact hk _ _ _ _ (strange_ok r _ (dr_toNat (by decide) rfl)) (Nat.le_trans dr_len hz) hkept
    · refine ex_skip ((tst_cmp (ev_name 11 (a := .str sm.s)) ev_str c_eqs).cast (sm_other sm h)) ?_
      exact hk _ _ _ _ (hn h) hz hkept
  exact seg_name (last _ fun h => nm_ok r sm h)
end
end Mine
end
section
open PySem PySem.W PySem.Calls PyProof.Rows PySem.Builtin.Str
set_option Elab.async false
set_option autoImplicit false
set_option linter.all false
set_option maxRecDepth 100000
set_option maxHeartbeats 1000000
namespace Mine
theorem tst_or3 {C : Cx} {lo : List (Option PV)} {st s1 s2 s3 : List Cell} {e1 e2 e3 : Expr} {pos : Pos} (h1 : Tst C lo st e1 false s1) (h2 : Tst C lo s1 e2 false s2) (h3 : Tst C lo s2 e3 false s3) : Tst C lo st (.BoolOp .Or [e1, e2, e3] pos) false s3 :=
  tst_boolop (or_cons h1 (fun _ => or_cons h2 (fun _ => or_cons h3 (fun _ => or_nil) fun q => nomatch q) fun q => nomatch q) fun q => nomatch q)
section
variable {P : Pg} {A : Around} {L : Addr} {S S' : List Cell} {ws ns : List Nat} {K : Out → Prop} {t x11 x12 x13 x14 x15 x16 x17 x18 x19 x20 x21 x22 : Option PV} {sm : Sm} {r : Rd} {l : List Gi} {b z : Bool} {name : Str} {jg jk : Nat} {xs out ev mon : List PV}
theorem seg_told (hc : Cl P tabs 11 (.ref 662) [.loc 17, .str name, .loc jg, .loc 46] S (.bool z) S') (hz : z = (sm.s != ("other" : Str))) (h1 : S'[jg]? = some (.list xs)) (h2 : S'[jk]? = some (.list xs)) (hx : ∀ p ∈ xs, Eqv 3 p)
    (hk : Ex (CL P A L) (LO t (some (.str sm.s)) x12 (some (.loc jg)) x14 x15 (some (.loc jk)) (some (.str name)) (some (.bool z)) x19 x20 x21 x22) S' (turnB.drop 11) K) :
    Ex (CL P A L) (LO t (some (.str sm.s)) x12 (some (.loc jg)) x14 x15 (some (.loc jk)) (some (.str name)) x18 x19 x20 x21 x22) S (turnB.drop 9) K := by
  conv => arg 4; whnf
  refine ex_assign 18 (ev_call (k := 26) (lv := 11) (ev_glob 6 26) (evs_cons (ev_name 4) (evs_cons (ev_name 17) (evs_cons (ev_name 13) (evs_cons (ev_name 5) evs_nil)))) hc (by show 11 ≤ 12; decide) rfl) ?_
  refine ex_skip (st1 := S') ((tst_or2 (y1 := false) (y2 := false) ((tst_cmp (ev_name 18 (a := .bool z)) (ev_cmp (ev_name 11 (a := .str sm.s)) ev_str c_nes) c_neb).cast (by rw [hz]; exact bne_self_eq_false _)) fun _ => tst_cmps (ev_name 13) (ev_name 16) (s_nel h1 h2 hx (by decide)) (by show 1 ≤ 12; decide)).cast rfl) ?_
  exact hk
theorem seg_cmp (k1 : S[17]? = some (.inst thr 16)) (k2 : S[16]? = some (.dict (kerE 10))) (o1 : S[21]? = some (.list out)) (o2 : S[51]? = some (.list out)) (e1 : S[29]? = some (.list ev)) (e2 : S[52]? = some (.list ev)) (m1 : S[30]? = some (.list mon)) (m2 : S[53]? = some (.list mon))
    (ho : ∀ p ∈ out, Eqv 3 p) (he : ∀ p ∈ ev, Eqv 3 p) (hm : ∀ p ∈ mon, Eqv 3 p) (hk : Ex (CL P A L) (LO t x11 x12 x13 x14 x15 x16 x17 x18 x19 x20 x21 x22) S (turnB.drop 13) K) :
    Ex (CL P A L) (LO t x11 x12 x13 x14 x15 x16 x17 x18 x19 x20 x21 x22) S (turnB.drop 12) K := by
  conv => arg 4; whnf
  have nv : ∀ i, NotVal (.loc i) := fun i v e => by cases e
  refine ex_skip (tst_or3 (s1 := S) (s2 := S) (s3 := S) (tst_cmps (ev_attr (ev_name 4) k1 k2 rfl (nv _)) (ev_name 7) (s_nel o1 o2 ho (by decide)) (by show 1 ≤ 12; decide)) (tst_cmps (ev_attr (ev_name 4) k1 k2 rfl (nv _)) (ev_name 8) (s_nel e1 e2 he (by decide)) (by show 1 ≤ 12; decide))
    (tst_cmps (ev_attr (ev_name 4) k1 k2 rfl (nv _)) (ev_name 9) (s_nel m1 m2 hm (by decide)) (by show 1 ≤ 12; decide))) ?_
  exact hk
theorem ev_shown {p0 p1 p2 p3 p4 pos : Pos} (sg : Sg ws ns) (hw : S[8]? = some (.list (natsV ws))) (hn : S[9]? = some (.list (natsV ns))) (hj : S[jg]? = some (.list (gPV l b))) (hl : l.length ≤ 12) (hok : ∀ g ∈ l, g.ok) :
    Ev (CL P A L) (LO t x11 (some (.str r.s)) (some (.loc jg)) x14 x15 x16 x17 x18 x19 x20 x21 x22) S (.Call (.Name "_law_shown" p0) [.Name "radix" p1, .Name "given" p2, .Name "wides" p3, .Name "numbers" p4] [] pos) (.str (dsp ws ns r b "top.t" l)) S :=
  ev_call (k := 34) (lv := 4) (ev_glob 7 34) (evs_cons (ev_name 12) (evs_cons (ev_name 13) (evs_cons (ev_name 2) (evs_cons (ev_name 3) evs_nil)))) (shown_cl (lv := 0) sg hw hn hj hl hok) (by show 4 ≤ 12; decide) rfl
theorem dsp_len' (sg : Sg ws ns) (hl : l.length ≤ 12) (hok : ∀ g ∈ l, g.ok) : (dsp ws ns r b "top.t" l).length ≤ 72000 :=
  disp_len (pathOf_len (by exact Nat.le_of_ble_eq_true rfl)) 12 _ (by simpa using hl) (ars_ok sg hok)
theorem chain_display (sg : Sg ws ns) (hw : S[8]? = some (.list (natsV ws))) (hn : S[9]? = some (.list (natsV ns))) (hj : S[jg]? = some (.list (gPV l b))) (hl : l.length ≤ 12) (hok : ∀ g ∈ l, g.ok) (o2 : S[51]? = some (.list out)) (hz : out.length < 1000)
    (hk : Ex (CL P A L) (LO t (some (.str Sm.display.s)) (some (.str r.s)) (some (.loc jg)) x14 x15 x16 x17 x18 x19 x20 x21 x22) (S.set 51 (.list (out ++ [.str (dsp ws ns r b "top.t" l ++ "\n")]))) (turnB.drop 12) K) :
    Ex (CL P A L) (LO t (some (.str Sm.display.s)) (some (.str r.s)) (some (.loc jg)) x14 x15 x16 x17 x18 x19 x20 x21 x22) S (turnB.drop 11) K := by
  conv => arg 4; whnf
  have hlen := dsp_len' (r := r) (b := b) sg hl hok
  have hn1 : ("\n" : Str).length = 1 := rfl
  refine ex_if_t ((tst_cmp (ev_name 11 (a := .str Sm.display.s)) ev_str c_eqs).cast (by decide +kernel)) ?_
  exact ex_expr (ev_append (ev_name 7) (ev_bin (ev_shown sg hw hn hj hl hok) ev_str (b_cat (by rw [sizeLine_eq]; omega))) o2 hz ⟨_, o2⟩) (ex_nil hk)
theorem chain_write (sg : Sg ws ns) (hw : S[8]? = some (.list (natsV ws))) (hn : S[9]? = some (.list (natsV ns))) (hj : S[jg]? = some (.list (gPV l b))) (hl : l.length ≤ 12) (hok : ∀ g ∈ l, g.ok) (o2 : S[51]? = some (.list out)) (hz : out.length < 1000)
    (hk : Ex (CL P A L) (LO t (some (.str Sm.write.s)) (some (.str r.s)) (some (.loc jg)) x14 x15 x16 x17 x18 x19 x20 x21 x22) (S.set 51 (.list (out ++ [.str (dsp ws ns r b "top.t" l)]))) (turnB.drop 12) K) :
    Ex (CL P A L) (LO t (some (.str Sm.write.s)) (some (.str r.s)) (some (.loc jg)) x14 x15 x16 x17 x18 x19 x20 x21 x22) S (turnB.drop 11) K := by
  conv => arg 4; whnf
  refine ex_if_f ((tst_cmp (ev_name 11 (a := .str Sm.write.s)) ev_str c_eqs).cast (by decide +kernel)) ?_
  refine ex_if_t ((tst_cmp (ev_name 11 (a := .str Sm.write.s)) ev_str c_eqs).cast (by decide +kernel)) ?_
  exact ex_expr (ev_append (ev_name 7) (ev_shown sg hw hn hj hl hok) o2 hz ⟨_, o2⟩) (ex_nil (ex_nil hk))
theorem chain_strobe {late : List PV} (o2 : S[52]? = some (.list ev)) (hz : ev.length < 1000) (o3 : S[54]? = some (.list late)) (hz3 : late.length < 1000)
    (hk : Ex (CL P A L) (LO t (some (.str Sm.strobe.s)) (some (.str r.s)) (some (.loc jg)) x14 x15 x16 (some (.str name)) x18 x19 x20 x21 x22) ((S.set 52 (.list (ev ++ [.tup [.str "late", .tup [.str "late", .str name, .loc jg, .loc 46]]]))).set 54 (.list (late ++ [.tup [.str r.s, .str name, .loc jg]]))) (turnB.drop 12) K) :
    Ex (CL P A L) (LO t (some (.str Sm.strobe.s)) (some (.str r.s)) (some (.loc jg)) x14 x15 x16 (some (.str name)) x18 x19 x20 x21 x22) S (turnB.drop 11) K := by
  conv => arg 4; whnf
  refine ex_if_f ((tst_cmp (ev_name 11 (a := .str Sm.strobe.s)) ev_str c_eqs).cast (by decide +kernel)) ?_
  refine ex_if_f ((tst_cmp (ev_name 11 (a := .str Sm.strobe.s)) ev_str c_eqs).cast (by decide +kernel)) ?_
  refine ex_if_t ((tst_cmp (ev_name 11 (a := .str Sm.strobe.s)) ev_str c_eqs).cast (by decide +kernel)) ?_
  refine ex_expr (ev_append (ev_name 8) (ev_tuple (evs_cons ev_str (evs_cons (ev_tuple (evs_cons ev_str (evs_cons (ev_name 17) (evs_cons (ev_name 13) (evs_cons (ev_name 5) evs_nil)))) (by exact Nat.le_of_ble_eq_true rfl)) evs_nil)) (by exact Nat.le_of_ble_eq_true rfl)) o2 hz ⟨_, o2⟩) ?_
  have o4 : ∀ c, (S.set 52 c)[54]? = some (.list late) := fun c => by rw [List.getElem?_set_ne (by decide)]; exact o3
  exact ex_expr (ev_append (ev_name 10) (ev_tuple (evs_cons (ev_name 12) (evs_cons (ev_name 17) (evs_cons (ev_name 13) evs_nil))) (by exact Nat.le_of_ble_eq_true rfl)) (o4 _) hz3 ⟨_, o4 _⟩) (ex_nil (ex_nil (ex_nil hk)))
theorem chain_monitor {late : List PV} (o2 : S[53]? = some (.list mon)) (hz : mon.length < 1000) (o3 : S[54]? = some (.list late)) (hz3 : late.length < 1000)
    (hk : Ex (CL P A L) (LO t (some (.str Sm.monitor.s)) (some (.str r.s)) (some (.loc jg)) x14 x15 x16 (some (.str name)) x18 x19 x20 x21 x22) ((S.set 53 (.list (mon ++ [.tup [.str name, .loc jg, .int 7]]))).set 54 (.list (late ++ [.tup [.str r.s, .str name, .loc jg]]))) (turnB.drop 12) K) :
    Ex (CL P A L) (LO t (some (.str Sm.monitor.s)) (some (.str r.s)) (some (.loc jg)) x14 x15 x16 (some (.str name)) x18 x19 x20 x21 x22) S (turnB.drop 11) K := by
  conv => arg 4; whnf
  refine ex_if_f ((tst_cmp (ev_name 11 (a := .str Sm.monitor.s)) ev_str c_eqs).cast (by decide +kernel)) ?_
  refine ex_if_f ((tst_cmp (ev_name 11 (a := .str Sm.monitor.s)) ev_str c_eqs).cast (by decide +kernel)) ?_
  refine ex_if_f ((tst_cmp (ev_name 11 (a := .str Sm.monitor.s)) ev_str c_eqs).cast (by decide +kernel)) ?_
  refine ex_if_t ((tst_cmp (ev_name 11 (a := .str Sm.monitor.s)) ev_str c_eqs).cast (by decide +kernel)) ?_
  refine ex_expr (ev_append (ev_name 9) (ev_tuple (evs_cons (ev_name 17) (evs_cons (ev_name 13) (evs_cons ev_int evs_nil))) (by exact Nat.le_of_ble_eq_true rfl)) o2 hz ⟨_, o2⟩) ?_
  have o4 : ∀ c, (S.set 53 c)[54]? = some (.list late) := fun c => by rw [List.getElem?_set_ne (by decide)]; exact o3
  exact ex_expr (ev_append (ev_name 10) (ev_tuple (evs_cons (ev_name 12) (evs_cons (ev_name 17) (evs_cons (ev_name 13) evs_nil))) (by exact Nat.le_of_ble_eq_true rfl)) (o4 _) hz3 ⟨_, o4 _⟩) (ex_nil (ex_nil (ex_nil (ex_nil hk))))
theorem chain_other (hk : Ex (CL P A L) (LO t (some (.str Sm.other.s)) x12 x13 x14 x15 x16 x17 x18 x19 x20 x21 x22) S (turnB.drop 12) K) :
    Ex (CL P A L) (LO t (some (.str Sm.other.s)) x12 x13 x14 x15 x16 x17 x18 x19 x20 x21 x22) S (turnB.drop 11) K := by
  conv => arg 4; whnf
  refine ex_if_f ((tst_cmp (ev_name 11 (a := .str Sm.other.s)) ev_str c_eqs).cast (by decide +kernel)) ?_
  refine ex_if_f ((tst_cmp (ev_name 11 (a := .str Sm.other.s)) ev_str c_eqs).cast (by decide +kernel)) ?_
  refine ex_if_f ((tst_cmp (ev_name 11 (a := .str Sm.other.s)) ev_str c_eqs).cast (by decide +kernel)) ?_
  refine ex_if_f ((tst_cmp (ev_name 11 (a := .str Sm.other.s)) ev_str c_eqs).cast (by decide +kernel)) ?_
  exact ex_nil (ex_nil (ex_nil (ex_nil hk)))
end
end Mine
end
section
open PySem PySem.W PySem.Calls PyProof.Rows PySem.Builtin.Str
set_option Elab.async false
set_option autoImplicit false
set_option linter.all false
set_option maxRecDepth 100000
set_option maxHeartbeats 1000000
namespace Mine
structure Bd (m : Nat) (out ev mon lent late : List PV) : Prop where
  lo : out.length ≤ m
  le : ev.length ≤ m
  lm : mon.length ≤ m
  ll : lent.length ≤ m
  la : late.length ≤ m
  eo : ∀ p ∈ out, Eqv 3 p
  ee : ∀ p ∈ ev, Eqv 3 p
  em : ∀ p ∈ mon, Eqv 3 p
  el : ∀ p ∈ lent, Eqv 3 p
theorem Bd.mono {m m' : Nat} {out ev mon lent late : List PV} (h : Bd m out ev mon lent late) (q : m ≤ m') : Bd m' out ev mon lent late :=
  ⟨Nat.le_trans h.lo q, Nat.le_trans h.le q, Nat.le_trans h.lm q, Nat.le_trans h.ll q, Nat.le_trans h.la q, h.eo, h.ee, h.em, h.el⟩
theorem eqv_snoc {l : List PV} {p : PV} (h : ∀ q ∈ l, Eqv 3 q) (hp : Eqv 3 p) : ∀ q ∈ l ++ [p], Eqv 3 q := by
  intro q hq
  rcases List.mem_append.mp hq with z | z
  · exact h q z
  · cases List.mem_singleton.mp z; exact hp
theorem len_snoc {l : List PV} {p : PV} {m : Nat} (h : l.length ≤ m) : (l ++ [p]).length ≤ m + 1 := by
  rw [List.length_append]; show _ + 1 ≤ _; omega
noncomputable def Late (g : List Cell) (late : List PV) : Prop := ∀ q ∈ late, ∃ (r : Rd) (name : Str) (kg : Nat) (l : List Gi) (b : Bool), q = .tup [.str r.s, .str name, .loc (55 + kg)] ∧ g[kg]? = some (.list (gPV l b)) ∧ l.length ≤ 12 ∧ (∀ v ∈ l, v.ok) ∧
  (rOf name "$strobe" = some r ∨ (rOf name "$strobe" = none ∧ rOf name "$monitor" = some r))
theorem Late.grow {g g' : List Cell} {late : List PV} (h : Late g late) : Late (g ++ g') late := fun q hq =>
  let ⟨r, name, kg, l, b, h1, h2, h3⟩ := h q hq; ⟨r, name, kg, l, b, h1, gL h2, h3⟩
theorem Late.snoc {g : List Cell} {late : List PV} (h : Late g late) {r : Rd} {name : Str} {kg : Nat} {l : List Gi} {b : Bool} (h2 : g[kg]? = some (.list (gPV l b))) (h3 : l.length ≤ 12) (h4 : ∀ v ∈ l, v.ok)
    (h5 : rOf name "$strobe" = some r ∨ (rOf name "$strobe" = none ∧ rOf name "$monitor" = some r)) : Late g (late ++ [.tup [.str r.s, .str name, .loc (55 + kg)]]) := by
  intro q hq
  rcases List.mem_append.mp hq with z | z
  · exact h q z
  · cases List.mem_singleton.mp z; exact ⟨r, name, kg, l, b, rfl, h2, h3, h4, h5⟩
theorem Sg.turn {ws ns : List Nat} (sg : Sg ws ns) {i w a : Nat} (hw : ws[i]? = some w) (ha : ns[i]? = some a) : Sg ws (ns.set i (2 ^ w - 1 - a)) := by
  refine ⟨sg.lw, by rw [List.length_set]; exact sg.ln, fun j w' a' h1 h2 => ?_⟩
  by_cases q : i = j
  · subst q
    rw [List.getElem?_set_self (lt_of_get ha)] at h2
    rw [hw] at h1; cases h1; cases h2
    obtain ⟨h3, h4, h5⟩ := sg.ok i w a hw ha
    exact ⟨h3, h4, by have := Nat.one_le_two_pow (n := w); omega⟩
  · rw [List.getElem?_set_ne q] at h2
    exact sg.ok j w' a' h1 h2
section
variable {P : Pg} {A : Around} {L : Addr} {sc : Scr} {ws ns : List Nat} {p : Pool} {out ev mon lent dout dev dmon late : List PV} {g : List Cell} {K : Out → Prop} {t x11 x12 x13 x14 x15 x16 x17 x18 x19 x20 x21 x22 : Option PV}
theorem seg_set {S : List Cell} {n w a : Nat} (hw : S[8]? = some (.list (natsV ws))) (hn : S[9]? = some (.list (natsV ns))) (e1 : ws[n]? = some w) (e2 : ns[n]? = some a) (h1 : w ≤ 9) (h2 : a < 2 ^ w)
    (hk : K (.next (LO t x11 x12 x13 x14 x15 x16 x17 x18 (some (.int n)) x20 x21 x22) (S.set 9 (.list (natsV (ns.set n (2 ^ w - 1 - a))))))) :
    Ex (CL P A L) (LO t x11 x12 x13 x14 x15 x16 x17 x18 (some (.int n)) x20 x21 x22) S (turnB.drop 14) K := by
  conv => arg 4; whnf
  have hlt := lt_of_get e2
  have hp1 := Nat.one_le_two_pow (n := w)
  refine ex_setitem (p := .int ((2 ^ w - 1 - a : Nat) : Int)) (xs := natsV ns) (n := (n : Int)) ((ev_bin (ev_bin (ev_pow2 (n := w) (ev_sub (ev_name 2) (ev_name 19) (i_list (xs := natsV ws) hw (by omega) (natsV_at e1))) rfl (by omega)) ev_int b_sub) (ev_sub (ev_name 3) (ev_name 19) (i_list (xs := natsV ns) hn (by omega) (natsV_at e2))) b_sub).cast (congrArg PV.int (by omega))) (ev_name 3) (ev_name 19) hn (by omega) (by unfold natsV; rw [List.length_map]; omega) (ex_nil ?_)
  have e : (natsV ns).set ((n : Int)).toNat (.int ((2 ^ w - 1 - a : Nat) : Int)) = natsV (ns.set n (2 ^ w - 1 - a)) := by
    rw [Int.toNat_natCast]; unfold natsV; rw [List.map_set]
  rw [e]; exact hk
theorem seg_end (sg : Sg ws ns) (tn : Nat) (hz : p.2.length ≤ 40) (hk : ∀ (ns' : List Nat) (p' : Pool) (y19 : Option PV), Sg ws ns' → p'.2.length ≤ 40 → K (.next (LO (some (.int tn)) x11 x12 x13 x14 x15 x16 x17 x18 y19 x20 x21 x22) (W sc ws p' ns' out ev mon lent dout dev dmon late g))) :
    Ex (CL P A L) (LO (some (.int tn)) x11 x12 x13 x14 x15 x16 x17 x18 x19 x20 x21 x22) (W sc ws p ns out ev mon lent dout dev dmon late g) (turnB.drop 13) K := by
  have step : ∀ (n : Nat) (p' : Pool), n < 3 → p'.2.length ≤ 40 → Ex (CL P A L) (LO (some (.int tn)) x11 x12 x13 x14 x15 x16 x17 x18 (some (.int n)) x20 x21 x22) (W sc ws p' ns out ev mon lent dout dev dmon late g) (turnB.drop 14) K := by
    intro n p' hn hz'
    obtain ⟨w, a, e1, e2, e3, e4, h1, h2, h3⟩ := sg.at hn
    exact seg_set rfl rfl e1 e2 h2 h3 (hk _ p' _ (sg.turn e1 e2) hz')
  conv => arg 4; whnf
  rcases Nat.eq_zero_or_pos tn with h0 | h0
  · have hs := step 0 p (by decide) hz
    generalize W sc ws p ns out ev mon lent dout dev dmon late g = S at hs
    exact ex_assign 19 (ev_ifexp (z := true) (st1 := S) ((tst_cmp (ev_name 1 (a := .int (tn : Int))) ev_int c_eq).cast (beq_iff_eq.mpr (by omega))) (fun _ => ev_int) (fun h => nomatch h)) hs
  · have hr := dr_range (p := p) (lim := 2) (by decide)
    obtain ⟨d, hd⟩ := Int.eq_ofNat_of_zero_le hr.1
    have hs := step (1 + d) (dr p 2).2 (by omega) (Nat.le_trans dr_len hz)
    have ed : ∀ {p1 p2 p3 pos : Pos} {k : Nat}, Ev (CL P A L) (LO (some (.int tn)) x11 x12 x13 x14 x15 x16 x17 x18 x19 x20 x21 x22) (W sc ws p ns out ev mon lent dout dev dmon late g) (.Call (.Name "_law_drawn" p1) [.Name "pool" p2, .Constant (.int 2) k p3] [] pos) (.int (d : Int)) (W sc ws (dr p 2).2 ns out ev mon lent dout dev dmon late g) := by
      intro p1 p2 p3 pos k; rw [← hd]; exact ev_draw (by omega) (by decide) (by decide)
    generalize W sc ws p ns out ev mon lent dout dev dmon late g = S at ed
    generalize W sc ws (dr p 2).2 ns out ev mon lent dout dev dmon late g = S' at ed hs
    refine ex_assign 19 (r := .int ((1 + d : Nat) : Int)) (ev_ifexp (z := false) (st1 := S) ((tst_cmp (ev_name 1 (a := .int (tn : Int))) ev_int c_eq).cast (beq_eq_false_iff_ne.mpr (by omega))) (fun h => nomatch h) (fun _ => (ev_bin ev_int ed b_add).cast (congrArg PV.int (by omega)))) hs
/-- the loop's invariant -/
noncomputable def Inv (sc : Scr) (ws : List Nat) (m : Nat) (lo : List (Option PV)) (s : List Cell) : Prop :=
  ∃ (p : Pool) (ns : List Nat) (out ev mon lent late : List PV) (g : List Cell) (t x11 x12 x13 x14 x15 x16 x17 x18 x19 x20 x21 x22 : Option PV), lo = LO t x11 x12 x13 x14 x15 x16 x17 x18 x19 x20 x21 x22 ∧
    s = W sc ws p ns out ev mon lent out ev mon late g ∧ p.2.length ≤ 40 ∧ Sg ws ns ∧ Bd m out ev mon lent late ∧ Late g late
noncomputable def KL (sc : Scr) (ws : List Nat) (m : Nat) (K : Out → Prop) (o : Out) : Prop := match o with
  | .next lo' st' => Inv sc ws m lo' st'
  | .cont lo' st' => Inv sc ws m lo' st'
  | .brk lo' st' => K (.next lo' st')
  | .ret r s => K (.ret r s)
theorem turn_tail (sg : Sg ws ns) (tn m : Nat) (hz : p.2.length ≤ 40) (hb : Bd m out ev mon lent late) (hl : Late g late) :
    Ex (CL P A L) (LO (some (.int tn)) x11 x12 x13 x14 x15 x16 x17 x18 x19 x20 x21 x22) (W sc ws p ns out ev mon lent out ev mon late g) (turnB.drop 12) (KL sc ws m K) :=
  seg_cmp rfl rfl rfl rfl rfl rfl rfl rfl hb.eo hb.ee hb.em (seg_end sg tn hz fun ns' p' y19 sg' hz' => ⟨p', ns', out, ev, mon, lent, late, g, _, _, _, _, _, _, _, _, _, _, _, _, _, rfl, rfl, hz', sg', hb, hl⟩)
theorem tkW (sg : Sg ws ns) {kg : Nat} {l : List Gi} {b : Bool} (hG : g[kg]? = some (.list (gPV l b))) (hl : l.length ≤ 12) (hok : ∀ v ∈ l, v.ok) (hb : Bd 900 out ev mon lent late) :
    Tk (preL sc p ws ns) (postL dout dev dmon late ++ g) 10 8 9 46 45 (55 + kg) ws ns estL "top.t" l b out ev mon lent lent where
  k := ⟨rfl, rfl, rfl, sg, by decide, by decide, rfl, rfl, rfl, by exact Nat.le_of_ble_eq_true rfl⟩
  ja1 := by omega
  hja := by rw [show 55 + kg - (10 + 33) = 12 + kg by omega]; exact gK' (by rfl) kg hG
  hl := hl
  ok := hok
  z1 := Nat.lt_of_le_of_lt hb.lo (by decide)
  z2 := Nat.lt_of_le_of_lt hb.le (by decide)
  z3 := Nat.lt_of_le_of_lt hb.lm (by decide)
  z4 := Nat.lt_of_le_of_lt hb.ll (by decide)
  z5 := Nat.lt_of_le_of_lt hb.ll (by decide)
end
end Mine
end
section
open PySem PySem.W PySem.Calls PyProof.Rows PySem.Builtin.Str
set_option Elab.async false
set_option autoImplicit false
set_option linter.all false
set_option maxRecDepth 100000
set_option maxHeartbeats 1000000
namespace Mine
section
variable {P : Pg} {A : Around} {L : Addr} {sc : Scr} {ws ns : List Nat} {p : Pool} {out ev mon lent late : List PV} {g : List Cell} {K : Out → Prop} {t x11 x12 x13 x14 x15 x16 x17 x18 x19 x20 x21 x22 : Option PV}
/-- from the call of show_task on -/
theorem turn_show {kg kk : Nat} {l : List Gi} {b : Bool} {r : Rd} {name : Str} (sm : Sm) (sg : Sg ws ns) (tn m : Nat) (hm : m ≤ 800) (hz : p.2.length ≤ 40) (hb : Bd m out ev mon lent late) (hl : Late g late) (hg : g[kg]? = some (.list (gPV l b))) (hkk : g[kk]? = some (.list (gPV l b))) (hl4 : l.length ≤ 12) (hok : ∀ v ∈ l, v.ok) (hn : NameOK r name sm) :
    Ex (CL P A L) (LO (some (.int tn)) (some (.str sm.s)) (some (.str r.s)) (some (.loc (55 + kg))) x14 x15 (some (.loc (55 + kk))) (some (.str name)) x18 x19 x20 x21 x22) (W sc ws p ns out ev mon lent out ev mon late g) (turnB.drop 9) (KL sc ws (m + 1) K) := by
  have T := tkW (sc := sc) (p := p) (dout := out) (dev := ev) (dmon := mon) sg hg hl4 hok (hb.mono (m' := 900) (by omega))
  have hb1 := hb.mono (Nat.le_succ m)
  have zo : out.length < 1000 := Nat.lt_of_le_of_lt hb.lo (by omega)
  have ze : ev.length < 1000 := Nat.lt_of_le_of_lt hb.le (by omega)
  have zm : mon.length < 1000 := Nat.lt_of_le_of_lt hb.lm (by omega)
  have zl : late.length < 1000 := Nat.lt_of_le_of_lt hb.la (by omega)
  have elu : ∀ q ∈ up lent lent, Eqv 3 q := eqv_snoc hb.el trivial
  cases sm with
  | display =>
    refine seg_told (S' := W sc ws p ns (out ++ [.str (dsp ws ns r b "top.t" l ++ "\n")]) ev mon (up lent lent) out ev mon late g) (show_display (lv := 0) T hn) (by decide +kernel) (W_get kg hg) (W_get kk hkk) (gPV_eqv l b) ?_
    refine chain_display sg rfl rfl (W_get kg hg) hl4 hok rfl zo ?_
    exact turn_tail (out := out ++ [.str (dsp ws ns r b "top.t" l ++ "\n")]) (lent := up lent lent) sg tn (m + 1) hz ⟨len_snoc hb.lo, hb1.le, hb1.lm, len_snoc hb.ll, hb1.la, eqv_snoc hb.eo (p := .str _) trivial, hb.ee, hb.em, elu⟩ hl
  | write =>
    refine seg_told (S' := W sc ws p ns (out ++ [.str (dsp ws ns r b "top.t" l)]) ev mon (up lent lent) out ev mon late g) (show_write (lv := 0) T hn.1 hn.2) (by decide +kernel) (W_get kg hg) (W_get kk hkk) (gPV_eqv l b) ?_
    refine chain_write sg rfl rfl (W_get kg hg) hl4 hok rfl zo ?_
    exact turn_tail (out := out ++ [.str (dsp ws ns r b "top.t" l)]) (lent := up lent lent) sg tn (m + 1) hz ⟨len_snoc hb.lo, hb1.le, hb1.lm, len_snoc hb.ll, hb1.la, eqv_snoc hb.eo (p := .str _) trivial, hb.ee, hb.em, elu⟩ hl
  | strobe =>
    refine seg_told (S' := W sc ws p ns out (ev ++ [.tup [.str "late", .tup [.str "late", .str name, .loc (55 + kg), .loc 46]]]) mon lent out ev mon late g) (show_strobe (lv := 0) T hn.1 hn.2.1 hn.2.2) (by decide +kernel) (W_get kg hg) (W_get kk hkk) (gPV_eqv l b) ?_
    refine chain_strobe rfl ze rfl zl ?_
    refine turn_tail (ev := ev ++ [.tup [.str "late", .tup [.str "late", .str name, .loc (55 + kg), .loc 46]]]) (late := late ++ [.tup [.str r.s, .str name, .loc (55 + kg)]]) sg tn (m + 1) hz ⟨hb1.lo, len_snoc hb.le, hb1.lm, hb1.ll, len_snoc hb.la, hb.eo, eqv_snoc hb.ee ?_, hb.em, hb.el⟩ (hl.snoc hg hl4 hok (.inl hn.2.2))
    intro q hq
    simp only [List.mem_cons, List.not_mem_nil, or_false] at hq
    rcases hq with rfl | rfl
    · trivial
    · intro q hq
      simp only [List.mem_cons, List.not_mem_nil, or_false] at hq
      rcases hq with rfl | rfl | rfl | rfl <;> trivial
  | monitor =>
    refine seg_told (S' := W sc ws p ns out ev (mon ++ [.tup [.str name, .loc (55 + kg), .int 7]]) lent out ev mon late g) (show_monitor (lv := 0) T hn.1 hn.2.1 hn.2.2.1 hn.2.2.2 rfl (fun v h => by cases h)) (by decide +kernel) (W_get kg hg) (W_get kk hkk) (gPV_eqv l b) ?_
    refine chain_monitor rfl zm rfl zl ?_
    refine turn_tail (mon := mon ++ [.tup [.str name, .loc (55 + kg), .int 7]]) (late := late ++ [.tup [.str r.s, .str name, .loc (55 + kg)]]) sg tn (m + 1) hz ⟨hb1.lo, hb1.le, len_snoc hb.lm, hb1.ll, len_snoc hb.la, hb.eo, hb.ee, eqv_snoc hb.em ?_, hb.el⟩ (hl.snoc hg hl4 hok (.inr ⟨hn.2.2.1, hn.2.2.2⟩))
    intro q hq
    simp only [List.mem_cons, List.not_mem_nil, or_false] at hq
    rcases hq with rfl | rfl | rfl <;> trivial
  | other =>
    refine seg_told (S' := W sc ws p ns out ev mon lent out ev mon late g) (show_other (lv := 9) hn.1 hn.2.1 hn.2.2.1 hn.2.2.2) (by decide +kernel) (W_get kg hg) (W_get kk hkk) (gPV_eqv l b) ?_
    refine chain_other ?_
    exact turn_tail sg tn (m + 1) hz hb1 hl
theorem turn_ex (sg : Sg ws ns) (tn m : Nat) (hm : m ≤ 800) (hz : p.2.length ≤ 40) (hb : Bd m out ev mon lent late) (hl : Late g late) :
    Ex (CL P A L) (LO (some (.int tn)) x11 x12 x13 x14 x15 x16 x17 x18 x19 x20 x21 x22) (W sc ws p ns out ev mon lent out ev mon late g) turnB (KL sc ws (m + 1) K) := by
  refine seg1 tn hz fun sm r p1 g1 hz1 _ => ?_
  refine seg2 sg tn hz1 fun l b p2 g2 y14 y15 hl4 hok hz2 => ?_
  refine seg3 hz2 fun name p3 g3 kk hn hz3 hkk => ?_
  rw [appL (a := g ++ g1)] at *
  have hgi : (g ++ g1 ++ ([Cell.list (gPV l b)] ++ g3))[(g ++ g1).length]? = some (.list (gPV l b)) := by rw [← appL]; exact gM
  exact turn_show sm sg tn m hm hz3 hb (by rw [appL]; exact hl.grow) hgi hkk (by omega) hok hn
end
end Mine
end
section
open PySem PySem.W PySem.Calls PyProof.Rows PySem.Builtin.Str
set_option Elab.async false
set_option autoImplicit false
set_option linter.all false
set_option maxRecDepth 100000
set_option maxHeartbeats 1000000
namespace Mine
theorem ev_and_one {C : Cx} {lo : List (Option PV)} {st st1 : List Cell} {e : Expr} {pos : Pos} {r : PV} (h : Ev C lo st e r st1) : Ev C lo st (.BoolOp .And [e] pos) r st1 := .mk fun s ρ F S Q hQ => BoolOp_one (h.run s ρ F S Q hQ)
theorem ev_and_true {C : Cx} {lo : List (Option PV)} {st st1 st2 : List Cell} {e1 e2 : Expr} {rest : List Expr} {pos : Pos} {r : PV} (h1 : Ev C lo st e1 (.bool true) st1) (h2 : Ev C lo st1 (.BoolOp .And (e2 :: rest) pos) r st2) : Ev C lo st (.BoolOp .And (e1 :: e2 :: rest) pos) r st2 := by
  refine .mk fun s ρ F S Q hQ => ?_
  refine BoolOp_and (h1.run s ρ F S _ fun v h' tk ρ1 F1 rv S1 p1 f1 => ?_)
  rw [rv.toBool]
  refine wpAny_truthy_bool ?_
  rw [if_pos rfl]
  exact h2.run _ ρ1 F1 S1 Q fun v h2 tk2 ρ2 F2 r2 S2 p2 f2 => hQ v h2 tk2 ρ2 F2 r2 S2 (p1.trans p2) (f1.trans f2)
noncomputable def lateB : List Stmt := match (bodyOf 111)[11]? with | some (Stmt.For _ _ b _ _) => b | _ => []
noncomputable def otherOf : Nat → Str
  | 0 => "$displayd"
  | 1 => "display"
  | 2 => "$finish"
  | 3 => "$strobex"
  | 4 => "$monitoron"
  | 5 => "$writebh"
  | 6 => "$display"
  | _ => "$writeb"
theorem other_at : ∀ n, n < 8 → (strangeL ++ [.str "$display", .str "$writeb"])[n]? = some (.str (otherOf n))
  | 0, _ => rfl | 1, _ => rfl | 2, _ => rfl | 3, _ => rfl | 4, _ => rfl | 5, _ => rfl | 6, _ => rfl | 7, _ => rfl
  | n + 8, h => by omega
theorem other_ok : ∀ n, n < 8 → rOf (otherOf n) "$strobe" = none ∧ rOf (otherOf n) "$monitor" = none := by
  have d : ∀ n, n < 8 → rtag (rOf (otherOf n) "$strobe") = 0 ∧ rtag (rOf (otherOf n) "$monitor") = 0 := by decide +kernel
  intro n h
  exact ⟨of_tag (y := none) (d n h).1, of_tag (y := none) (d n h).2⟩
section
variable {P : Pg} {A : Around} {L : Addr} {S S' : List Cell} {sc : Scr} {ws ns : List Nat} {p : Pool} {out ev mon lent late : List PV} {g : List Cell} {K : Out → Prop} {t x11 x12 x13 x14 x15 x16 x17 x18 x19 x20 x21 x22 : Option PV} {r : Rd} {l : List Gi} {b : Bool} {name : Str} {jg : Nat}
theorem late_body (hc : Cl P tabs 11 (.ref 669) [.loc 17, .str name, .loc jg, .loc 46] S .none S') (sg : Sg ws ns) (hw : S'[8]? = some (.list (natsV ws))) (hn : S'[9]? = some (.list (natsV ns))) (hj : S'[jg]? = some (.list (gPV l b))) (hl : l.length ≤ 12) (hok : ∀ g ∈ l, g.ok) (o2 : S'[51]? = some (.list out)) (hz : out.length < 1000)
    (k1 : S'[17]? = some (.inst thr 16)) (k2 : S'[16]? = some (.dict (kerE 10))) (o1 : S'[21]? = some (.list (out ++ [.str (dsp ws ns r b "top.t" l ++ "\n")]))) (ho : ∀ p ∈ out, Eqv 3 p)
    (hk : K (.next (LO t x11 (some (.str r.s)) (some (.loc jg)) x14 x15 x16 (some (.str name)) x18 x19 x20 x21 x22) (S'.set 51 (.list (out ++ [.str (dsp ws ns r b "top.t" l ++ "\n")]))))) :
    Ex (CL P A L) (LO t x11 (some (.str r.s)) (some (.loc jg)) x14 x15 x16 (some (.str name)) x18 x19 x20 x21 x22) S lateB K := by
  conv => arg 4; whnf
  have hlen := dsp_len' (r := r) (b := b) sg hl hok
  have hn1 : ("\n" : Str).length = 1 := rfl
  refine ex_expr (ev_call (k := 27) (lv := 11) (ev_glob 8 27) (evs_cons (ev_name 4) (evs_cons (ev_name 17) (evs_cons (ev_name 13) (evs_cons (ev_name 5) evs_nil)))) hc (by show 11 ≤ 12; decide) rfl) ?_
  refine ex_expr (ev_append (ev_name 7) (ev_bin (ev_shown sg hw hn hj hl hok) ev_str (b_cat (by rw [sizeLine_eq]; omega))) o2 hz ⟨_, o2⟩) ?_
  have g2 : ∀ {i : Nat} {c d : Cell}, i ≠ 51 → S'[i]? = some c → (S'.set 51 d)[i]? = some c := fun hi h => by rw [List.getElem?_set_ne (Ne.symm hi)]; exact h
  have o3 : (S'.set 51 (.list (out ++ [.str (dsp ws ns r b "top.t" l ++ "\n")])))[51]? = some (.list (out ++ [.str (dsp ws ns r b "top.t" l ++ "\n")])) := List.getElem?_set_self (lt_of_get o2)
  refine ex_skip (tst_cmps (ev_attr (ev_name 4) (g2 (by decide) k1) (g2 (by decide) k2) rfl (fun v e => by cases e)) (ev_name 7) (s_nel (g2 (by decide) o1) o3 (eqv_snoc ho (p := .str _) trivial) (by decide)) (by show 1 ≤ 12; decide)) ?_
  exact ex_nil hk
/-- what is left behind the late loop -/
noncomputable def restB : List Stmt := (bodyOf 111).drop 12
theorem late_loop (sg : Sg ws ns) (hb : Bd 5 out ev mon lent late) (hl : Late g late)
    (hk : ∀ (out' lent' : List PV) (y12 y13 y17 : Option PV), Bd 10 out' ev mon lent' late → Ex (CL P A L) (LO t x11 y12 y13 x14 x15 x16 y17 x18 x19 x20 x21 x22) (W sc ws p ns out' ev mon lent' out' ev mon late g) restB K) :
    Ex (CL P A L) (LO t x11 x12 x13 x14 x15 x16 x17 x18 x19 x20 x21 x22) (W sc ws p ns out ev mon lent out ev mon late g) ((bodyOf 111).drop 11) K := by
  conv => arg 4; whnf
  refine ex_fort (xs := late) (ev_name 10) rfl (fot_inv (xs := late) (fun k lo s => k ≤ late.length ∧ ∃ (out' lent' : List PV) (y12 y13 y17 : Option PV), lo = LO t x11 y12 y13 x14 x15 x16 y17 x18 x19 x20 x21 x22 ∧ s = W sc ws p ns out' ev mon lent' out' ev mon late g ∧ Bd (5 + k) out' ev mon lent' late)
    ⟨Nat.zero_le _, out, lent, x12, x13, x17, rfl, rfl, hb⟩ ?_ ?_ ?_)
  · rintro k _ _ ⟨-, out', lent', y12, y13, y17, rfl, rfl, -⟩; rfl
  · rintro k q _ _ hq ⟨hk', out', lent', y12, y13, y17, rfl, rfl, hb'⟩
    have hkl := lt_of_get hq
    have hla := hb.la
    obtain ⟨r, name, kg, l, b, rfl, hg, hl4, hok, hr⟩ := hl q (List.mem_of_getElem? hq)
    refine ⟨_, LO t x11 (some (.str r.s)) (some (.loc (55 + kg))) x14 x15 x16 (some (.str name)) x18 x19 x20 x21 x22, rfl, .cons 12 rfl (.cons 17 rfl (.cons 13 rfl .nil)), ?_⟩
    have T := tkW (sc := sc) (p := p) (dout := out') (dev := ev) (dmon := mon) sg hg hl4 hok (hb'.mono (m' := 900) (by omega))
    have hc : Cl P tabs 11 (.ref 669) [.loc 17, .str name, .loc (55 + kg), .loc 46] (W sc ws p ns out' ev mon lent' out' ev mon late g) .none (W sc ws p ns (out' ++ [.str (dsp ws ns r b "top.t" l ++ "\n")]) ev mon (up lent' lent') out' ev mon late g) := by
      rcases hr with h | ⟨h0, h⟩
      · exact late_strobe (lv := 0) T h
      · exact late_monitor (lv := 0) T h0 h
    have hb1 := hb'.mono (Nat.le_succ (5 + k))
    refine late_body hc sg rfl rfl (W_get kg hg) hl4 hok rfl (Nat.lt_of_le_of_lt hb'.lo (by omega)) rfl rfl rfl hb'.eo ?_
    exact ⟨hkl, _, _, _, _, _, rfl, rfl, len_snoc hb'.lo, hb1.le, hb1.lm, len_snoc hb'.ll, hb1.la, eqv_snoc hb'.eo (p := .str _) trivial, hb'.ee, hb'.em, eqv_snoc hb'.el (p := .int _) trivial⟩
  · rintro _ _ ⟨hk', out', lent', y12, y13, y17, rfl, rfl, hb'⟩
    exact hk _ _ _ _ _ (hb'.mono (by have := hb.la; omega))
end
end Mine
end
section
open PySem PySem.W PySem.Calls PyProof.Rows PySem.Builtin.Str
set_option Elab.async false
set_option autoImplicit false
set_option linter.all false
set_option maxRecDepth 100000
set_option maxHeartbeats 1000000
namespace Mine
noncomputable def TryOK (P : Pg) : Prop := ∀ (A : Around) (_ : A.frames = some []) (L : Addr) (S : List Cell) (K : Out → Prop) (t x11 x12 x13 x14 x15 x16 x17 x18 x19 x21 x22 : Option PV) (name : Str), rOf name "$strobe" = none → rOf name "$monitor" = none →
  (∀ (g : List Cell) (y22 : Option PV), Ex (CL P A L) (LO t x11 x12 x13 x14 x15 x16 x17 x18 x19 (some (.str name)) (some (.bool true)) y22) (S ++ g) ((bodyOf 111).drop 15) K) →
  Ex (CL P A L) (LO t x11 x12 x13 x14 x15 x16 x17 x18 x19 (some (.str name)) x21 x22) S ((bodyOf 111).drop 14) K
section
variable {P : Pg} {A : Around} {L : Addr} {S : List Cell} {sc : Scr} {ws ns : List Nat} {p : Pool} {out ev mon lent late : List PV} {g : List Cell} {K : Out → Prop} {t x11 x12 x13 x14 x15 x16 x17 x18 x19 x20 x21 x22 : Option PV}
theorem law_ret (k1 : S[17]? = some (.inst thr 16)) (k2 : S[16]? = some (.dict (kerE 10))) (o1 : S[21]? = some (.list out)) (o2 : S[51]? = some (.list out)) (e1 : S[29]? = some (.list ev)) (e2 : S[52]? = some (.list ev)) (m1 : S[31]? = some (.list lent)) (m2 : S[32]? = some (.list lent))
    (ho : ∀ p ∈ out, Eqv 3 p) (he : ∀ p ∈ ev, Eqv 3 p) (hm : ∀ p ∈ lent, Eqv 3 p) (hk : K (.ret (.bool true) S)) :
    Ex (CL P A L) (LO t x11 x12 x13 x14 x15 x16 x17 x18 x19 x20 (some (.bool true)) x22) S ((bodyOf 111).drop 15) K := by
  conv => arg 4; whnf
  have nv : ∀ i, NotVal (.loc i) := fun i v e => by cases e
  have l1 : 1 ≤ (CL P A L).lv := by show 1 ≤ 12; decide
  refine ex_ret (ev_and_true (ev_name 21) (ev_and_true (ev_cmps (ev_attr (ev_name 4) k1 k2 rfl (nv _)) (ev_name 7) (s_eql o1 o2 ho (by decide)) l1) (ev_and_true (ev_cmps (ev_attr (ev_name 4) k1 k2 rfl (nv _)) (ev_attr (ev_name 4) k1 k2 rfl (nv _)) (s_eql m1 m2 hm (by decide)) l1) (ev_and_one (ev_cmps (ev_attr (ev_name 4) k1 k2 rfl (nv _)) (ev_name 8) (s_eql e1 e2 he (by decide)) l1))))) hk
theorem law_rest (TO : TryOK P) (hA : A.frames = some []) (hz : p.2.length ≤ 40) (hb : Bd 10 out ev mon lent late) (hk : ∀ S, (∃ ps, S[0]? = some (.tab ps)) → S[1]? = some (.obj sc.o) → K (.ret (.bool true) S)) :
    Ex (CL P A L) (LO t x11 x12 x13 x14 x15 x16 x17 x18 x19 x20 x21 x22) (W sc ws p ns out ev mon lent out ev mon late g) restB K := by
  have last : ∀ n, n < 8 → ∀ g' x21, Ex (CL P A L) (LO t x11 x12 x13 x14 x15 x16 x17 x18 x19 (some (.str (otherOf n))) x21 x22) (W sc ws (dr p 8).2 ns out ev mon lent out ev mon late g') ((bodyOf 111).drop 14) K := by
    intro n hn g' x21
    refine TO A hA L _ K _ _ _ _ _ _ _ _ _ _ _ _ _ (other_ok n hn).1 (other_ok n hn).2 fun g2 y22 => ?_
    rw [W_app]
    exact law_ret rfl rfl rfl rfl rfl rfl rfl rfl hb.eo hb.ee hb.el (hk _ ⟨_, rfl⟩ rfl)
  have hr := dr_range (p := p) (lim := 8) (by decide)
  obtain ⟨n, hn⟩ := Int.eq_ofNat_of_zero_le hr.1
  have hn8 : n < 8 := by omega
  unfold restB
  conv => arg 4; whnf
  have l0 : (W sc ws p ns out ev mon lent out ev mon late g ++ [Cell.list [.str "$display", .str "$writeb"]]).length = 56 + g.length := by rw [W_app, W_len, List.length_append]; show 55 + (_ + 1) = _; omega
  have hs : ∀ {g' : List Cell}, (W sc ws p ns out ev mon lent out ev mon late g ++ g')[50]? = some (.list strangeL) := fun {g'} => by rw [W_app]; rfl
  have hl : (W sc ws p ns out ev mon lent out ev mon late g ++ [Cell.list [.str "$display", .str "$writeb"]])[(W sc ws p ns out ev mon lent out ev mon late g).length]? = some (.list [.str "$display", .str "$writeb"]) := gA
  have hd : ∀ {p1 p2 p3 pos : Pos} {k : Nat} {lo : List (Option PV)}, Ev (CL P A L) lo (W sc ws p ns out ev mon lent out ev mon late g ++ [Cell.list [.str "$display", .str "$writeb"]] ++ [Cell.list (strangeL ++ [.str "$display", .str "$writeb"])]) (.Call (.Name "_law_drawn" p1) [.Name "pool" p2, .Constant (.int 8) k p3] [] pos) (.int (n : Int))
      (W sc ws (dr p 8).2 ns out ev mon lent out ev mon late g ++ [Cell.list [.str "$display", .str "$writeb"]] ++ [Cell.list (strangeL ++ [.str "$display", .str "$writeb"])]) := by
    intro p1 p2 p3 pos k lo
    rw [appL, appL, ← hn]; exact ev_drawA (by omega) (by decide) (by decide)
  have hi : (W sc ws (dr p 8).2 ns out ev mon lent out ev mon late g ++ [Cell.list [.str "$display", .str "$writeb"]] ++ [Cell.list (strangeL ++ [.str "$display", .str "$writeb"])])[(W sc ws p ns out ev mon lent out ev mon late g ++ [Cell.list [.str "$display", .str "$writeb"]]).length]? = some (.list (strangeL ++ [.str "$display", .str "$writeb"])) := by
    rw [l0, show 56 + g.length = (W sc ws (dr p 8).2 ns out ev mon lent out ev mon late g ++ [Cell.list [.str "$display", .str "$writeb"]]).length by rw [W_app, W_len, List.length_append]; show _ = 55 + (_ + 1); omega]
    exact gA
  have fin := last n hn8
  have e2 : ∀ {g2 : List Cell}, W sc ws (dr p 8).2 ns out ev mon lent out ev mon late g ++ g2 = W sc ws (dr p 8).2 ns out ev mon lent out ev mon late (g ++ g2) := W_app
  have e3 := fun x21 => fin (g ++ ([Cell.list [.str "$display", .str "$writeb"]] ++ [Cell.list (strangeL ++ [.str "$display", .str "$writeb"])])) x21
  simp only [← e2] at e3
  simp only [← appL] at e3
  generalize W sc ws p ns out ev mon lent out ev mon late g = S at hs hl hd hi
  generalize W sc ws (dr p 8).2 ns out ev mon lent out ev mon late g = S2 at hd hi e3
  refine ex_assign 20 (r := .str (otherOf n)) (ev_sub (ev_addl (xs := strangeL) (ys := [.str "$display", .str "$writeb"]) (ev_name 6) (ev_list (evs_cons ev_str (evs_cons ev_str evs_nil)) (by exact Nat.le_of_ble_eq_true rfl)) hs hl (by decide)) hd (i_list hi (by omega) (by rw [Int.toNat_natCast]; exact other_at n hn8))) ?_
  refine ex_assign 21 ev_bool ?_
  exact e3 _
end
end Mine
end
section
open PySem PySem.W PySem.Calls PyProof.Rows PySem.Builtin.Str
set_option Elab.async false
set_option autoImplicit false
set_option linter.all false
set_option maxRecDepth 100000
set_option maxHeartbeats 1000000
namespace Mine
section
variable {P : Pg} {A : Around} {L : Addr} {S : List Cell} {sc : Scr} {ws ns : List Nat} {p : Pool} {K : Out → Prop} {x2 x3 x4 x5 x6 x7 x8 x9 x10 t x11 x12 x13 x14 x15 x16 x17 x18 x19 x20 x21 x22 : Option PV}
/-- the loops -/
theorem law_loops (TO : TryOK P) (hA : A.frames = some []) (sg : Sg ws ns) (hz : p.2.length ≤ 40) (hk : ∀ S, (∃ ps, S[0]? = some (.tab ps)) → S[1]? = some (.obj sc.o) → K (.ret (.bool true) S)) :
    Ex (CL P A L) (LO t x11 x12 x13 x14 x15 x16 x17 x18 x19 x20 x21 x22) (W sc ws p ns [] [] [] [] [] [] [] [] []) ((bodyOf 111).drop 10) K := by
  conv => arg 4; whnf
  have hr := dr_range (p := p) (lim := 4) (by decide)
  have hup : (upto (2 + (dr p 4).1).toNat).length ≤ 5 := by simp [upto]; omega
  have nil3 : ∀ p ∈ ([] : List PV), Eqv 3 p := fun _ h => nomatch h
  refine ex_for (it_range (ev_blt 1 7 boot_range) (ev_bin ev_int (ev_draw (by omega) (by decide) (by decide)) b_add) (by omega) (by omega)) (fo_inv 1 (Inv sc ws) rfl ⟨(dr p 4).2, ns, [], [], [], [], [], [], t, x11, x12, x13, x14, x15, x16, x17, x18, x19, x20, x21, x22, rfl, rfl, Nat.le_trans dr_len hz, sg, ⟨Nat.le_refl _, Nat.le_refl _, Nat.le_refl _, Nat.le_refl _, Nat.le_refl _, nil3, nil3, nil3, nil3⟩, fun _ h => nomatch h⟩ ?_ ?_)
  · rintro j pv _ _ hj ⟨p', ns', out, ev, mon, lent, late, g, t', y11, y12, y13, y14, y15, y16, y17, y18, y19, y20, y21, y22, rfl, rfl, hz', sg', hb, hl⟩
    have hj5 : j < 5 := Nat.lt_of_lt_of_le (lt_of_get hj) hup
    have ep : pv = .int (j : Int) := by
      have hj' := lt_of_get hj
      simp only [upto, List.length_map, List.length_range] at hj'
      simp [upto, hj'] at hj
      exact hj.symm
    subst ep
    exact turn_ex sg' j j (by omega) hz' hb hl
  · rintro _ _ ⟨p', ns', out, ev, mon, lent, late, g, t', y11, y12, y13, y14, y15, y16, y17, y18, y19, y20, y21, y22, rfl, rfl, hz', sg', hb, hl⟩
    refine late_loop sg' (hb.mono hup) hl fun out' lent' z12 z13 z17 hb2 => ?_
    exact law_rest TO hA hz' hb2 hk
/-- the first eight cells -/
noncomputable def A8 (sc : Scr) (p : Pool) : List Cell := [.tab [], .obj sc.o, .cell (some (.loc 7))] ++ poolG sc.ns ++ [.list p.pv]
theorem A8_len : (A8 sc p).length = 8 := rfl
noncomputable def L0 (x2 x3 x4 x5 x6 x7 x8 x9 x10 : Option PV) : List (Option PV) := [some (.loc 1), none, x2, x3, x4, x5, x6, x7, x8, x9, x10, none, none, none, none, none, none, none, none, none, none, none, none]
theorem front3 (hk : Ex (CL P A L) (LO none none none none none none none none none none none none none) (W sc ws p ns [] [] [] [] [] [] [] [] []) ((bodyOf 111).drop 10) K) :
    Ex (CL P A L) (L0 (some (.loc 8)) (some (.loc 9)) none none none none none none none) (A8 sc p ++ [.list (natsV ws)] ++ [.list (natsV ns)]) ((bodyOf 111).drop 3) K := by
  conv => arg 4; whnf
  refine ex_assign 4 (ev_call (k := 35) (lv := 3) (ev_glob 2 35) (evs_cons (ev_name 2) (evs_cons (ev_name 3) evs_nil)) (kernel_cl (lv := 0) rfl) (by show 3 ≤ 12; decide) rfl) ?_
  change Ex _ (L0 (some (.loc 8)) (some (.loc 9)) (some (.loc 17)) none none none none none none) (preL sc p ws ns ++ kerCells 10 8 9 [] [] [] [] []) _ _
  generalize hS : preL sc p ws ns ++ kerCells 10 8 9 [] [] [] [] [] = S
  have l0 : S.length = 43 := by rw [← hS]; rfl
  have l1 : (S ++ [Cell.list []]).length = 44 := by rw [List.length_append, l0]; rfl
  have l2 : (S ++ [Cell.list []] ++ [Cell.list []]).length = 45 := by rw [List.length_append, l1]; rfl
  refine ex_assign 5 (ev_new (lv := 1) (vs := [.int 7, .loc 43, .int 0, .loc 44, .str "top.t"]) (ev_glob 3 37) (evs_cons ev_int (evs_cons (l0 ▸ ev_list evs_nil (by decide)) (evs_cons ev_int (evs_cons (l1 ▸ ev_list evs_nil (by decide)) (evs_cons ev_str evs_nil))))) init_cd (by show 1 + 1 ≤ 12; decide)) ?_
  rw [l2]
  generalize hS2 : S ++ [Cell.list []] ++ [Cell.list []] ++ [.dict (thrE (.int 7) (.loc 43) (.int 0) (.loc 44) (.str "top.t") 45), .inst thr 45, .list [], .list [], .dict []] = S2
  have m0 : S2.length = 50 := by rw [← hS2, List.length_append, l2]; rfl
  refine ex_assign 6 (ev_list (rs := strangeL) (evs_cons ev_str (evs_cons ev_str (evs_cons ev_str (evs_cons ev_str (evs_cons ev_str (evs_cons ev_str evs_nil)))))) (by exact Nat.le_of_ble_eq_true rfl)) ?_
  have m1 : (S2 ++ [Cell.list strangeL]).length = 51 := by rw [List.length_append, m0]; rfl
  refine ex_assign 7 (ev_list evs_nil (by decide)) ?_
  have m2 : (S2 ++ [Cell.list strangeL] ++ [Cell.list []]).length = 52 := by rw [List.length_append, m1]; rfl
  refine ex_assign 8 (ev_list evs_nil (by decide)) ?_
  have m3 : (S2 ++ [Cell.list strangeL] ++ [Cell.list []] ++ [Cell.list []]).length = 53 := by rw [List.length_append, m2]; rfl
  refine ex_assign 9 (ev_list evs_nil (by decide)) ?_
  have m4 : (S2 ++ [Cell.list strangeL] ++ [Cell.list []] ++ [Cell.list []] ++ [Cell.list []]).length = 54 := by rw [List.length_append, m3]; rfl
  refine ex_assign 10 (ev_list evs_nil (by decide)) ?_
  rw [m0, m1, m2, m3, m4]
  have eW : S2 ++ [Cell.list strangeL] ++ [Cell.list []] ++ [Cell.list []] ++ [Cell.list []] ++ [Cell.list []] = W sc ws p ns [] [] [] [] [] [] [] [] [] := by
    rw [← hS2, ← hS]; rfl
  rw [eW]
  exact hk
noncomputable def pj (p : Pool) : Nat → Pool
  | 0 => p
  | j + 1 => (dr (pj p j) 9).2
theorem pj_len (p : Pool) : ∀ j, (pj p j).2.length ≤ p.2.length
  | 0 => Nat.le_refl _
  | j + 1 => Nat.le_trans dr_len (pj_len p j)
noncomputable def wsOf (p : Pool) : List Nat := (List.range 3).map fun j => (1 + (dr (pj p j) 9).1).toNat
theorem wsOf_at (p : Pool) {j : Nat} (h : j < 3) : (wsOf p)[j]? = some (1 + (dr (pj p j) 9).1).toNat := by simp [wsOf, h]
theorem wsOf_ok (p : Pool) {j w : Nat} (h : (wsOf p)[j]? = some w) : 1 ≤ w ∧ w ≤ 9 ∧ (w : Int) = 1 + (dr (pj p j) 9).1 := by
  have hj : j < 3 := by have := lt_of_get h; simpa [wsOf] using this
  rw [wsOf_at p hj] at h
  have hr := dr_range (p := pj p j) (lim := 9) (by decide)
  cases h
  omega
noncomputable def qj (ws : List Nat) (p : Pool) : Nat → Pool
  | 0 => p
  | j + 1 => (dr (qj ws p j) ((2 ^ ws.getD j 0 : Nat) : Int)).2
theorem qj_len (ws : List Nat) (p : Pool) : ∀ j, (qj ws p j).2.length ≤ p.2.length
  | 0 => Nat.le_refl _
  | j + 1 => Nat.le_trans dr_len (qj_len ws p j)
noncomputable def nsOf (ws : List Nat) (p : Pool) : List Nat := (List.range ws.length).map fun j => ((dr (qj ws p j) ((2 ^ ws.getD j 0 : Nat) : Int)).1).toNat
theorem front2 (hz : p.2.length ≤ 40) (hl : ws.length = 3) (hws : ∀ (j w : Nat), ws[j]? = some w → 1 ≤ w ∧ w ≤ 9) (hk : Sg ws (nsOf ws p) → Ex (CL P A L) (L0 (some (.loc 8)) (some (.loc 9)) none none none none none none none) (A8 sc (qj ws p 3) ++ [.list (natsV ws)] ++ [.list (natsV (nsOf ws p))]) ((bodyOf 111).drop 3) K) :
    Ex (CL P A L) (L0 (some (.loc 8)) none none none none none none none none) (A8 sc p ++ [.list (natsV ws)]) ((bodyOf 111).drop 2) K := by
  conv => arg 4; whnf
  have hn : (nsOf ws p).length = 3 := by simp [nsOf, hl]
  have at_ : ∀ (j w : Nat), ws[j]? = some w → 1 ≤ ((2 ^ w : Nat) : Int) ∧ ((2 ^ w : Nat) : Int) ≤ 512 := by
    intro j w h
    obtain ⟨h1, h2⟩ := hws j w h
    have := Nat.one_le_two_pow (n := w)
    have : 2 ^ w ≤ 2 ^ 9 := Nat.pow_le_pow_right (by decide) h2
    omega
  have nat_ : ∀ (j w : Nat), ws[j]? = some w → (nsOf ws p)[j]? = some ((dr (qj ws p j) ((2 ^ w : Nat) : Int)).1).toNat := by
    intro j w h
    have hj := lt_of_get h
    have hw0 : ws.getD j 0 = w := by rw [List.getD_eq_getElem?_getD, h]; rfl
    unfold nsOf
    rw [List.getElem?_map, List.getElem?_range hj, Option.map_some, hw0]
  have sg : Sg ws (nsOf ws p) := ⟨hl, hn, fun j w a h1 h2 => by
    rw [nat_ j w h1] at h2
    have hr := dr_range (p := qj ws p j) (at_ j w h1).1
    obtain ⟨h3, h4⟩ := hws j w h1
    cases h2
    exact ⟨h3, h4, by omega⟩⟩
  refine ex_assign_compL (xs := natsV ws) (stB := A8 sc (qj ws p 3) ++ [Cell.list (natsV ws)] ++ [Cell.list (natsV (nsOf ws p))]) (cl := [("pool", L + 1)]) (gk := ["_law_drawn"]) (ck := [("pool", 2)]) 3 (ev_name 2) rfl ?_ (fun L2 => ?_) ?_
  · exact ⟨rfl, by decide +kernel, rfl, by decide +kernel, rfl, by intro y hy; simp only [List.mem_cons, List.not_mem_nil, or_false] at hy; subst hy; rfl, by intro q hq; rw [List.mem_singleton] at hq; subst hq; exact .inl rfl, by intro q hq; rw [List.mem_singleton] at hq; subst hq; exact ⟨L + 1, rfl, rfl, List.mem_cons_self⟩⟩
  · have hT : (natsV ws).length = 3 := by simp [natsV, hl]
    refine cpl_run (rs := natsV (nsOf ws p)) (fun j => A8 sc (qj ws p j) ++ [.list (natsV ws)] ++ [.list ((natsV (nsOf ws p)).take j)]) rfl (by simp [natsV, hl, hn]) (by simp [natsV, hn]) rfl (by rw [hT, List.take_of_length_le (by simp [natsV, hn])]) rfl (fun k _ => rfl) fun j pv r hp hr hm => ?_
    unfold natsV at hp hr
    rw [List.getElem?_map] at hp hr
    obtain ⟨w, ew, rfl⟩ := Option.map_eq_some_iff.mp hp
    obtain ⟨a, ea, rfl⟩ := Option.map_eq_some_iff.mp hr
    obtain ⟨b1, b2⟩ := at_ j w ew
    obtain ⟨b3, b4⟩ := hws j w ew
    have hd := dr_range (p := qj ws p j) b1
    rw [nat_ j w ew] at ea
    have hv : (dr (qj ws p j) ((2 ^ w : Nat) : Int)).1 = (a : Int) := by cases ea; omega
    have hz2 := qj_len ws p j
    have hw0 : ws.getD j 0 = w := by rw [List.getD_eq_getElem?_getD, ew]; rfl
    refine ⟨A8 sc (dr (qj ws p j) ((2 ^ w : Nat) : Int)).2 ++ [.list (natsV ws)] ++ [.list ((natsV (nsOf ws p)).take j)], ?_, rfl, ?_⟩
    · rw [← hv]
      exact ev_call (k := 30) (lv := 1) (ev_glob 0 30) (evs_cons (ev_cname 0 rfl rfl) (evs_cons (ev_pow2 (n := w) (ev_name 0) rfl (by omega)) evs_nil)) (drawn_cl (lv := 0) rfl b1 (by omega) (by omega)) (by show 1 ≤ 12; decide) rfl
    · show A8 sc (dr (qj ws p j) ((2 ^ ws.getD j 0 : Nat) : Int)).2 ++ _ ++ _ = _
      rw [hw0]; rfl
  · exact hk sg
theorem front1 (hz : p.2.length ≤ 40) (hk : Ex (CL P A L) (L0 (some (.loc 8)) none none none none none none none none) (A8 sc (pj p 3) ++ [.list (natsV (wsOf p))]) ((bodyOf 111).drop 2) K) :
    Ex (CL P A L) (L0 none none none none none none none none none) (A8 sc p) ((bodyOf 111).drop 1) K := by
  conv => arg 4; whnf
  have hn : (wsOf p).length = 3 := by simp [wsOf]
  refine ex_assign_comp (items := upto ((3 : Int).toNat)) (stB := A8 sc (pj p 3) ++ [Cell.list (natsV (wsOf p))]) (cl := [("pool", L + 1)]) (gk := ["_law_drawn"]) (ck := [("pool", 2)]) 2 (it_range (ev_blt 1 7 boot_range) ev_int (by decide) (by decide)) ?_ (fun L2 => ?_) ?_
  · exact ⟨rfl, by decide +kernel, rfl, by decide +kernel, rfl, by intro y hy; simp only [List.mem_cons, List.not_mem_nil, or_false] at hy; subst hy; rfl, by intro q hq; rw [List.mem_singleton] at hq; subst hq; exact .inl rfl, by intro q hq; rw [List.mem_singleton] at hq; subst hq; exact ⟨L + 1, rfl, rfl, List.mem_cons_self⟩⟩
  · refine cp_run (rs := natsV (wsOf p)) (fun j => A8 sc (pj p j) ++ [.list ((natsV (wsOf p)).take j)]) rfl (by simp [natsV, hn, upto]) (by simp [natsV, hn]) rfl (by show _ ++ [Cell.list ((natsV (wsOf p)).take 3)] = _; rw [List.take_of_length_le (by simp [natsV, hn])]; rfl) rfl fun j pv r hp hr hm => ?_
    unfold natsV at hr
    rw [List.getElem?_map] at hr
    obtain ⟨w, ew, rfl⟩ := Option.map_eq_some_iff.mp hr
    obtain ⟨h1, h2, hv⟩ := wsOf_ok p ew
    have hz2 := pj_len p j
    refine ⟨A8 sc (dr (pj p j) 9).2 ++ [.list ((natsV (wsOf p)).take j)], ?_, rfl, rfl⟩
    rw [hv]
    exact ev_bin ev_int (ev_call (k := 30) (lv := 1) (ev_glob 0 30) (evs_cons (ev_cname 0 rfl rfl) (evs_cons ev_int evs_nil)) (drawn_cl (lv := 0) rfl (by decide) (by decide) (by omega)) (by show 1 ≤ 12; decide) rfl) b_add
  · exact hk
/-- the law's body gives True -/
theorem law_ex (TO : TryOK P) (hA : A.frames = some []) (hs : IntsObj sc.o sc.ns) (hk : ∀ S, (∃ ps, S[0]? = some (.tab ps)) → S[1]? = some (.obj sc.o) → K (.ret (.bool true) S)) : Ex (CL P A L) (L0 none none none none none none none none none) ([.tab [], .obj sc.o] ++ [.cell none]) (bodyOf 111) K := by
  conv => arg 4; whnf
  refine ex_cassign (j := 2) 0 (ev_call (k := 29) (lv := 1) (ev_glob 0 29) (evs_cons (ev_name 0) evs_nil) (pool_cl (lv := 0) (js := 1) (ns := sc.ns) rfl hs) (by show 1 ≤ 12; decide) rfl) (v0 := none) rfl ?_
  have hz : ((sc.ns.take 40).reverse).length ≤ 40 := by rw [List.length_reverse, List.length_take]; omega
  have hw : ∀ (j w : Nat), (wsOf (5, (sc.ns.take 40).reverse))[j]? = some w → 1 ≤ w ∧ w ≤ 9 := fun j w h => ⟨(wsOf_ok _ h).1, (wsOf_ok _ h).2.1⟩
  refine front1 (p := (5, (sc.ns.take 40).reverse)) hz (front2 (Nat.le_trans (pj_len _ 3) hz) (by simp [wsOf]) hw fun sg => front3 (law_loops TO hA sg (Nat.le_trans (qj_len _ _ 3) (Nat.le_trans (pj_len _ 3) hz)) hk))
end
end Mine
end
section
open PySem PySem.W PySem.Calls PyProof.Rows PySem.Builtin.Str
set_option Elab.async false
set_option autoImplicit false
set_option linter.all false
set_option maxRecDepth 100000
set_option maxHeartbeats 1000000
namespace Mine
/-- the call of the law gives True -/
theorem law_code {P : Pg} (G : Gd P tabs) (TO : TryOK P) (sc : Scr) (hs : IntsObj sc.o sc.ns) {s : Shared} {ρ : List Addr} {F : Frz} {a : Addr} (S : SimS P [.tab [], .obj sc.o] ρ F s.heap) (ha : ρ[1]? = some a) (R : Result → Shared → Prop)
    (hR : ∀ h' tk, (∃ ps, h'.get? P.ktab = some (tabObj ps)) → h'.get? a = some sc.o → (∀ b o, P.h0.get? b = some o → h'.get? b = some o) → R (.ok (.ret (.bool true))) (Rest s h' tk)) :
    codeAny (model P.prog P.w) callerA (.call (.ref 740) ⟨[.ref a], []⟩) R s := by
  refine code_cells (lv := 12) (K := fun o => match o with | .ret r S => r = .bool true ∧ (∃ ps, S[0]? = some (.tab ps)) ∧ S[1]? = some (.obj sc.o) | _ => False) ok_law (k := 36) rfl (vs := [.loc 1]) rfl callerA (fun L => ?_) s ρ F [.ref a] G rfl (by decide) (by decide) S (.cons (.loc ha) .nil) R ?_
  · exact law_ex TO rfl hs fun S h1 h2 => ⟨rfl, h1, h2⟩
  · intro v h' tk ρ' F' o ko hv p f
    cases o with
    | next _ _ => exact ko.elim
    | brk _ _ => exact ko.elim
    | cont _ _ => exact ko.elim
    | ret r S2 =>
      obtain ⟨rfl, ⟨ps, h1⟩, h2⟩ := ko
      obtain ⟨rv, S'⟩ := hv
      rw [rv.toBool]
      obtain ⟨x0, e0, vs, c0, _⟩ := S'.cells 0 _ h1
      rw [S'.tb] at e0; cases e0
      obtain ⟨x1, e1, c1⟩ := S'.cells 1 _ h2
      rw [pre_get p ha] at e1; cases e1
      exact hR h' tk ⟨vs, c0⟩ c1 fun b o e => S'.fin b o (S'.gnd b o e)
theorem sims0 {P : Pg} {h : Heap} {a : Addr} {o : Obj} (h1 : ∀ b o, P.h0.get? b = some o → h.get? b = some o) (h2 : P.h0.get? P.ktab = none) (h3 : P.h0.get? a = none) (hne : P.ktab ≠ a) (h4 : h.get? P.ktab = some (tabObj #[])) (h5 : h.get? a = some o) :
    SimS P [.tab [], .obj o] [P.ktab, a] (fun b => P.h0.get? b) h := by
  refine ⟨h1, fun _ _ e => e, by simp [hne], fun b hb => ?_, rfl, rfl, fun i c e => ?_⟩
  · simp only [List.mem_cons, List.not_mem_nil, or_false] at hb
    rcases hb with rfl | rfl
    · exact h2
    · exact h3
  · match i, e with
    | 0, e => cases e; exact ⟨_, rfl, #[], h4, trivial, fun pos _ => rfl⟩
    | 1, e => cases e; exact ⟨_, rfl, h5⟩
    | i + 2, e => cases e
noncomputable def subK (K : Frag) (as : List Addr) : Frag := as.filterMap fun a => (K.lookup a).map fun o => (a, o)
theorem subK_look {K : Frag} : ∀ {as : List Addr} {a : Addr} {o : Obj}, (subK K as).lookup a = some o → a ∈ as ∧ K.lookup a = some o
  | [], _, _, e => by cases e
  | x :: as, a, o, e => by
    unfold subK at e
    rw [List.filterMap_cons] at e
    cases q : K.lookup x with
    | none =>
      rw [q] at e
      obtain ⟨h1, h2⟩ := subK_look (K := K) (as := as) e
      exact ⟨List.mem_cons_of_mem _ h1, h2⟩
    | some o' =>
      rw [q] at e
      simp only [Option.map_some, List.lookup_cons] at e
      cases hb : a == x with
      | true => rw [hb] at e; cases e; rw [eq_of_beq hb]; exact ⟨List.mem_cons_self, q⟩
      | false =>
        rw [hb] at e
        obtain ⟨h1, h2⟩ := subK_look (K := K) (as := as) e
        exact ⟨List.mem_cons_of_mem _ h1, h2⟩
/-- no list, no table -/
noncomputable def plainObj (o : Obj) : Bool := match o.data with
  | .seq _ _ => !(o.cls == .type "list")
  | .fields _ => !(o.cls == .none)
  | _ => true
theorem plainObj_list {vs : Array Value} {n : Nat} : plainObj (listOf vs n) = false := rfl
theorem plainObj_tab {vs : Array Value} : plainObj (tabObj vs) = false := rfl
section
variable {K : Frag} {h : Heap} {p : Program} {loose : List Str} {mean : ExcName → Option Value} {mg mb : Str → Option Value} {a : Addr} {so : Obj} {prog : Program} {w : World}
theorem keep0 (ht : h.get? 730 = some (tabObj #[])) (hs : h.get? a = some so) (hp : plainObj so = false) {b : Addr} {o : Obj} (e : h.get? b = some o) (ho : plainObj o = true) : (hideAll h [730, a]).get? b = some o := by
  refine hideAll_get _ e fun hb => ?_
  simp only [List.mem_cons, List.not_mem_nil, or_false] at hb
  rcases hb with rfl | rfl
  · rw [ht] at e; cases e; cases ho
  · rw [hs] at e; cases e; rw [hp] at ho; cases ho
theorem ns0 (ht : h.get? 730 = some (tabObj #[])) (hs : h.get? a = some so) (hp : plainObj so = false) {b : Addr} {m : Str → Option Value} (x : h.Ns b m) : (hideAll h [730, a]).Ns b m := by
  obtain ⟨o, es, ep, e, hd, r⟩ := x
  exact ⟨o, es, ep, keep0 ht hs hp e (by unfold plainObj; rw [hd]), hd, r⟩
theorem gd_of (KX : K.In h) (T : Top p loose mean mg mb h) (hC : CodeHd h 734 730) (ht : h.get? 730 = some (tabObj #[])) (hs : h.get? a = some so) (hp : plainObj so = false)
    (c1 : ∀ q ∈ tabs.glob, nsIn K mainGlobals q.1 = some (some q.2)) (c2 : ∀ x ∈ tabs.miss, mg x = none)
    (c3 : ∀ q ∈ tabs.fns, ∃ o c oc vs t, K.lookup q.1 = some o ∧ o.data = .func q.2 ∧ q.2.code = .ref c ∧ K.lookup c = some oc ∧ oc.data = .fields vs ∧ plainObj oc = true ∧ vs[1]? = some (.str q.2.qualname t))
    (as : List Addr) (c4 : ∀ x ∈ as, ∀ o, K.lookup x = some o → plainObj o = true) (c5 : ClsOK (subK K as)) : Gd { prog := prog, w := w, h0 := hideAll h [730, a], ktab := 730 } tabs where
  glob := ⟨mg, ns0 ht hs hp T.g, fun q hq => mg_of KX T.g (c1 q hq), c2⟩
  blt := ⟨mb, ns0 ht hs hp T.b, T.builtins⟩
  nolim := let ⟨mc, a1, r⟩ := T.nolimit; ⟨mc, ns0 ht hs hp a1, r⟩
  cls := ⟨subK K as, fun x o e => by
    obtain ⟨h1, h2⟩ := subK_look e
    exact keep0 ht hs hp (KX x o h2) (c4 x h1 o h2), c5⟩
  nest := by
    refine ⟨?_, mg, ns0 ht hs hp T.g, ?_, (show mainGlobals ≠ 730 by decide)⟩
    · obtain ⟨o, vs, file, tf, flags, tg, inF, text, tt, e1, r1, r2, r3⟩ := hC
      exact ⟨o, vs, file, tf, flags, tg, inF, text, tt, keep0 ht hs hp e1 (by unfold plainObj; rw [r2, r1]; rfl), r1, r2, r3⟩
    · obtain ⟨bm, ob, a1, a2, a3, a4, a5, a6⟩ := T.bmain
      refine ⟨bm, ob, a1, a2, ?_, ?_, keep0 ht hs hp a3 (by unfold plainObj; rw [a6]), a4, a5, a6⟩
      · intro q
        obtain ⟨o, es, ep, e, hd, r⟩ := T.g
        rw [← q, a3] at e; cases e; rw [a6] at hd; cases hd
      · intro q
        have q' : bm = 730 := q
        rw [q', ht] at a3; cases a3; cases a6
  fns := fun q hq => by
    obtain ⟨o, c, oc, vs, t, e1, e2, e3, e4, e5, e6, e7⟩ := c3 q hq
    refine ⟨o, keep0 ht hs hp (KX _ _ e1) (by unfold plainObj; rw [e2]), e2, c, oc, vs, t, e3, keep0 ht hs hp (KX _ _ e4) e6, e5, e7⟩
end
theorem well_list {Ps : Params} {h : Heap} {a : Addr} {d : WData} {vs : List Value} (hW : Well Ps h (.ref a) d) (hL : h.IsList a vs.toArray) (hd : ∃ l, d = .list l) : h.get? a = some (listOf vs.toArray 0) := by
  obtain ⟨l, rfl⟩ := hd
  obtain ⟨o, e, hc, n, hdt⟩ := hL
  cases hW with
  | list e2 _ =>
    rw [e] at e2; cases e2
    cases hdt
    exact e
theorem intsAre_len {vs : List Value} {ns : List Int} (h : IntsAre vs ns) : vs.length = ns.length := by
  induction h with
  | nil => rfl
  | cons n t _ ih => rw [List.length_cons, List.length_cons, ih]
theorem of_map {α β : Type} {f g : α → β} : ∀ {l : List α}, l.map f = l.map g → ∀ q ∈ l, f q = g q
  | [], _, _, h => nomatch h
  | x :: l, e, q, h => by
    rw [List.map_cons, List.map_cons, List.cons.injEq] at e
    rcases List.mem_cons.mp h with rfl | h
    · exact e.1
    · exact of_map e.2 q h
noncomputable def codeIn (K : Frag) (q : Addr × FuncData) : Bool := match q.2.code with
  | .ref c => match K.lookup c with
    | some oc => plainObj oc && (match oc.data with
      | Data.fields vs => (match vs[1]? with
        | some (Value.str s _) => s == q.2.qualname
        | _ => false)
      | _ => false)
    | none => false
  | _ => false
theorem codeIn_of {K : Frag} {q : Addr × FuncData} (h : codeIn K q = true) : ∃ c oc vs t, q.2.code = .ref c ∧ K.lookup c = some oc ∧ oc.data = .fields vs ∧ plainObj oc = true ∧ vs[1]? = some (.str q.2.qualname t) := by
  unfold codeIn at h
  split at h
  · rename_i c hc
    split at h
    · rename_i oc ho
      rw [Bool.and_eq_true] at h
      obtain ⟨h1, h2⟩ := h
      split at h2
      · rename_i vs hv
        split at h2
        · rename_i s t hs
          exact ⟨c, oc, vs, t, hc, ho, hv, h1, by rw [hs, beq_iff_eq.mp h2]⟩
        · cases h2
      · cases h2
    · cases h
  · cases h
noncomputable def plainAt (K : Frag) (x : Addr) : Bool := match K.lookup x with
  | some o => plainObj o
  | none => true
noncomputable def missOK (p : Program) (loose : List Str) (x : Str) : Bool := !(startupNames.contains x) && !(loose.contains x) && !(((recsOf p).map (·.name)).contains x) && !(((litsOf p).map (·.1)).contains x) && !(((clssOf p loose).map (·.name)).contains x)
theorem gd_of' {K : Frag} {h : Heap} {p : Program} {loose : List Str} {mean : ExcName → Option Value} {mg mb : Str → Option Value} {a : Addr} {so : Obj} {prog : Program} {w : World} (KX : K.In h) (T : Top p loose mean mg mb h) (hC : TabsAt [(734, 730)] h) (hs : h.get? a = some so) (hp : plainObj so = false)
    (c1 : tabs.glob.map (fun q => nsIn K mainGlobals q.1) = tabs.glob.map (fun q => some (some q.2))) (c2 : tabs.miss.all (missOK p loose) = true)
    (c3 : tabs.fns.map (fun q => (K.lookup q.1).map (·.data)) = tabs.fns.map (fun q => some (Data.func q.2))) (c3' : tabs.fns.all (codeIn K) = true)
    (as : List Addr) (c4 : as.all (plainAt K) = true) (c5 : ClsOK (subK K as)) : Gd { prog := prog, w := w, h0 := hideAll h [730, a], ktab := 730 } tabs := by
  have hq := hC (734, 730) List.mem_cons_self
  refine gd_of KX T hq.1 hq.2 hs hp (fun q hm => of_map c1 q hm) (fun x hx => ?_) (fun q hm => ?_) as (fun x hx o e => ?_) c5
  · have := List.all_eq_true.mp c2 x hx
    unfold missOK at this
    simp only [Bool.and_eq_true, Bool.not_eq_true', List.contains_eq_mem, decide_eq_false_iff_not] at this
    exact T.free x this.1.1.1.1 this.1.1.1.2 this.1.1.2 this.1.2 this.2
  · obtain ⟨c, oc, vs, t, e3, e4, e5, e6, e7⟩ := codeIn_of (List.all_eq_true.mp c3' q hm)
    obtain ⟨o, e1, e2⟩ := Option.map_eq_some_iff.mp (of_map c3 q hm)
    exact ⟨o, c, oc, vs, t, e1, e2, e3, e4, e5, e6, e7⟩
  · have := List.all_eq_true.mp c4 x hx
    unfold plainAt at this
    rw [e] at this; exact this
theorem fin_base {h h' : Heap} {a : Addr} {so : Obj} (hob : h.get? a = some so) (ha : h'.get? a = some so) (hk : ∀ b o, (hideAll h [730, a]).get? b = some o → h'.get? b = some o) : ∀ b o, (ghostOf h [(734, 730)]).get? b = some o → h'.get? b = some o := by
  intro b o e
  have e1 := of_hideAll _ e
  by_cases q : b = a
  · subst q; rw [hob] at e1; cases e1; exact ha
  · refine hk b o (hideAll_get _ e1 fun hb => ?_)
    simp only [List.mem_cons, List.not_mem_nil, or_false] at hb
    rcases hb with rfl | rfl
    · rw [show (ghostOf h [(734, 730)]).get? 730 = none from hideAll_none _ (by simp)] at e; cases e
    · exact q rfl
end Mine
end
section
open PySem PySem.W PySem.Calls PyProof.Rows PySem.Builtin.Str
set_option Elab.async false
set_option autoImplicit false
set_option linter.all false
set_option maxRecDepth 100000
set_option maxHeartbeats 1000000
namespace Mine
/-- an exception with a traceback's entry, its class, its dict and the mark of the entry told -/
structure Fl (base h : Heap) (l : List Env) (e : Addr) (cls : Value) (dd : Option Addr) (fl : Value) : Prop where
  stays : base.StaysIn h
  frames : h.FunFrames base l
  new : base.get? e = none
  ex : ∃ oe vs T oT ts, h.get? e = some oe ∧ (oe.cls = cls ∧ oe.dict = dd) ∧ oe.data = .fields vs ∧ vs[1]? = some (.ref T) ∧ base.get? T = none ∧ T ≠ e ∧ h.get? T = some oT ∧ oT.data = .fields ts ∧ ts[3]? = some fl
theorem mapF_cls (o : Obj) (f : Array Value → Array Value) : (Obj.mapFields f o).cls = o.cls ∧ (Obj.mapFields f o).dict = o.dict := by
  obtain ⟨c, d, dt, sl⟩ := o
  cases dt <;> exact ⟨rfl, rfl⟩
section
variable {M : Model} {A : Around} {E : Value → Shared → Prop} {s : Shared} {base : Heap} {env : Env} {outer : List Env} {L e : Addr} {cls : Value} {dd : Option Addr}
/-- a new entry is laid on e -/
theorem fl_entry {oe : Obj} {vs : Array Value} {head : Value} {hadNext : Bool} {Q : Unit → Shared → Prop}
    (hfr : A.frames = some (env :: outer)) (hl : s.heap.FunFrames base (env :: outer)) (hf : env.frame = some L)
    (he : s.heap.get? e = some oe) (hkb : base.StaysIn s.heap) (hen : base.get? e = none) (hd : oe.data = .fields vs) (hsz : 1 < vs.size)
    (h : ∀ h', Fl base h' (env :: outer) e oe.cls oe.dict (rawInt L) → s.heap.UpToSlots h' → Q () { s with heap := h' }) :
    wpAny M A (do let a ← frameOf env; let pl ← entryPlaceOf L hadNext; let b ← EntryCells.newEntry head a .none (rawInt L) .none pl; setField (.ref e) 1 b) Q E s := by
  have hene : e ∉ (env :: outer).filterMap (·.frame) := fun hm => by
    obtain ⟨_, o, ho, hnf⟩ := hl.mem hm
    rw [he] at ho; injection ho with ho; subst ho; exact hnf vs hd
  refine wpAny_bind (wpAny_frameOf_fun hfr hl hf fun h₁ hs₁ => ?_)
  refine wpAny_bind (wpAny_entryPlaceOf fun pl hpl => ?_)
  unfold EntryCells.newEntry newFields
  refine wpAny_bind (wpAny_newObj_type ?_ (hpl.sizeOk5 _ _ _ _ _))
  generalize hob : ({ cls := .type "traceback", dict := none, data := .fields ([head, .ref L, .none, rawInt L, .none] ++ (if pl.isEmpty then List.replicate 6 Value.none else pl)).toArray } : Obj) = ob
  have hbd : ∃ ts, ob.data = .fields ts ∧ ts[3]? = some (rawInt L) := by
    rw [← hob]
    exact ⟨_, rfl, by first | (simp; done) | (rcases hpl with rfl | ⟨_, _, _, _, _, _, _, rfl⟩ <;> simp)⟩
  obtain ⟨ts, hbd1, hbd2⟩ := hbd
  have hfre : ob.data ≠ .freed := by rw [hbd1]; exact fun q => by cases q
  have he₁ : h₁.get? e = some oe := (hs₁.2.1 e hene).trans he
  have kb₁ : base.StaysIn h₁ := fun b o hbo => (hs₁.2.1 b fun hm => by rw [(hl.mem hm).1] at hbo; cases hbo).trans (hkb b o hbo)
  have he₂ := Heap.get?_push_of_some (h := h₁) ob he₁
  refine wpAny_setField he₂ hd hsz (h _ ?_ ?_)
  all_goals
    have hTe : h₁.objs.size ≠ e := Nat.ne_of_gt (Heap.lt_size he₁)
    have hd₃ := Obj.data_mapFields hd (·.setIfInBounds 1 (Value.ref h₁.objs.size))
    have he₃ := Heap.get?_update_self (Obj.mapFields (·.setIfInBounds 1 (Value.ref h₁.objs.size))) he₂ (Obj.isFreed_of_fields hd₃)
    have hT₃ := (Heap.get?_update_other (h₁.push ob) (Obj.mapFields (·.setIfInBounds 1 (Value.ref h₁.objs.size))) (Ne.symm hTe)).trans (Heap.get?_push_size h₁ (Obj.isFreed_of_fields hbd1))
    have keep : ∀ b o, b ≠ e → h₁.get? b = some o → ((h₁.push ob).update e (Obj.mapFields (·.setIfInBounds 1 (Value.ref h₁.objs.size)))).get? b = some o := fun b o hbe hb => by
      rw [Heap.get?_update_other _ _ (Ne.symm hbe)]
      exact Heap.get?_push_of_some _ hb
    have noRecord : ∀ b o, s.heap.get? b = some o → (∀ vs, o.data ≠ .fields vs) → b ≠ e := fun b o hb hnf q => by
      rw [q, he] at hb; injection hb with hb; subst hb; exact hnf vs hd
  · refine ⟨fun b o hbo => keep b o (fun q => by rw [q, hen] at hbo; cases hbo) (kb₁ b o hbo), hl.of_keeps fun b o hb hnf => ?_, hen, ?_⟩
    · obtain ⟨sl, hs⟩ := hs₁.2.2 b o hb
      exact ⟨_, keep b _ (noRecord b o hb hnf) hs, rfl⟩
    · exact ⟨_, _, h₁.objs.size, ob, ts, he₃, mapF_cls _ _, hd₃, by simp [hsz], kb₁.fresh, hTe, hT₃, hbd1, hbd2⟩
  · intro b o hb hnf
    obtain ⟨sl, hs⟩ := hs₁.2.2 b o hb
    exact ⟨sl, keep b _ (noRecord b o hb hnf) hs⟩
theorem fl_first {oe : Obj} {vs : Array Value} {Q : Unit → Shared → Prop}
    (hfr : A.frames = some (env :: outer)) (hl : s.heap.FunFrames base (env :: outer)) (hf : env.frame = some L)
    (he : s.heap.get? e = some oe) (hkb : base.StaysIn s.heap) (hen : base.get? e = none) (hd : oe.data = .fields vs) (h1 : vs[1]? = some .none)
    (h : ∀ h', Fl base h' (env :: outer) e oe.cls oe.dict (rawInt L) → s.heap.UpToSlots h' → Q () { s with heap := h' }) : wpAny M A (noteFrame (.ref e) env) Q E s := by
  unfold noteFrame
  simp only [hf]
  refine wpAny_bind (wpAny_field he hd h1 ?_)
  rw [if_neg (by decide)]
  exact fl_entry hfr hl hf he hkb hen hd (Array.getElem?_eq_some_iff.mp h1).1 h
theorem fl_flight {l : List Env} {fl : Value} {Q : Unit → Shared → Prop} (F : Fl base s.heap l e cls dd fl)
    (h : ∀ h', Fl base h' l e cls dd .none → s.heap.UpToSlots h' → Q () { s with heap := h' }) : wpAny M A (setFlight (.ref e) none) Q E s := by
  obtain ⟨oe, vs, T, oT, ts, he, hcls, hd, h1, hnT, hTe, hT, hdT, h3⟩ := F.ex
  have hsz3 : 3 < ts.size := (Array.getElem?_eq_some_iff.mp h3).1
  have other : ∀ b, b ≠ T → (s.heap.update T (Obj.mapFields (·.setIfInBounds 3 ((none : Option Addr).elim Value.none fun f => rawInt f)))).get? b = s.heap.get? b :=
    fun b hb => Heap.get?_update_other _ _ (Ne.symm hb)
  have noRecord : ∀ b o, s.heap.get? b = some o → (∀ vs, o.data ≠ .fields vs) → b ≠ T := fun b o hb hnf q => by
    rw [q, hT] at hb; injection hb with hb; subst hb; exact hnf ts hdT
  unfold setFlight
  refine wpAny_bind (wpAny_field he hd h1 ?_)
  rw [if_pos (show (Value.ref T != Value.none) = true from by simp)]
  refine wpAny_setField hT hdT hsz3 (h _ ⟨fun b o hbo => (other b fun q => by rw [q, hnT] at hbo; cases hbo).trans (F.stays b o hbo),
    F.frames.of_keeps fun b o hb hnf => ⟨o, (other b (noRecord b o hb hnf)).trans hb, rfl⟩, F.new, ?_⟩ fun b o hb hnf => ⟨o.slots, (other b (noRecord b o hb hnf)).trans hb⟩)
  exact ⟨oe, vs, T, _, _, (other e (Ne.symm hTe)).trans he, hcls, hd, h1, hnT, hTe, Heap.get?_update_self _ hT (Obj.isFreed_of_fields (Obj.data_mapFields hdT _)), Obj.data_mapFields hdT _, by simp [hsz3]⟩
theorem fl_next {Q : Unit → Shared → Prop} (hfr : A.frames = some (env :: outer)) (hf : env.frame = some L) (F : Fl base s.heap (env :: outer) e cls dd .none)
    (h : ∀ h', Fl base h' (env :: outer) e cls dd (rawInt L) → s.heap.UpToSlots h' → Q () { s with heap := h' }) : wpAny M A (noteFrame (.ref e) env) Q E s := by
  obtain ⟨oe, vs, T, oT, ts, he, ⟨hcls, hdd⟩, hd, h1, hnT, hTe, hT, hdT, h3⟩ := F.ex
  subst hcls hdd
  unfold noteFrame
  simp only [hf]
  refine wpAny_bind (wpAny_field he hd h1 ?_)
  rw [if_pos (show (Value.ref T != Value.none) = true from by simp)]
  refine wpAny_bind (wpAny_field hT hdT h3 ?_)
  rw [if_neg (show ¬ ((Value.none == rawInt L) = true) from by simp [rawInt])]
  refine wpAny_bind (wpAny_setField hT hdT (Array.getElem?_eq_some_iff.mp h3).1 ?_)
  have other : ∀ b, b ≠ T → (s.heap.update T (Obj.mapFields (·.setIfInBounds 3 Value.none))).get? b = s.heap.get? b := fun b hb => Heap.get?_update_other _ _ (Ne.symm hb)
  have noRecord : ∀ b o, s.heap.get? b = some o → (∀ vs, o.data ≠ .fields vs) → b ≠ T := fun b o hb hnf q => by
    rw [q, hT] at hb; injection hb with hb; subst hb; exact hnf ts hdT
  refine fl_entry hfr (F.frames.of_keeps fun b o hb hnf => ⟨o, (other b (noRecord b o hb hnf)).trans hb, rfl⟩) hf ((other e (Ne.symm hTe)).trans he)
    (fun b o hbo => (other b fun q => by rw [q, hnT] at hbo; cases hbo).trans (F.stays b o hbo)) F.new hd (Array.getElem?_eq_some_iff.mp h1).1
    fun h' x1 x2 => h h' x1 fun b o hb hnf => x2 b o ((other b (noRecord b o hb hnf)).trans hb) hnf
end
end Mine
end
section
open PySem PySem.W PySem.Calls PyProof.Rows PySem.Builtin.Str PySem.Builtin.ObjectAttr
set_option Elab.async false
set_option autoImplicit false
set_option linter.all false
set_option maxRecDepth 100000
set_option maxHeartbeats 1000000
namespace Mine
theorem ga_plain : plainId "BaseException.__getattribute__" = true := by decide +kernel
theorem ga_kind : builtinKind "BaseException.__getattribute__" = some .slot := by decide +kernel
theorem ga_split : splitId "BaseException.__getattribute__" = some ("BaseException", "__getattribute__") := by kernel_rfl
theorem ga_bind (self : Value) : bindSpecial (.builtin "BaseException.__getattribute__") self = pure (.builtin "BaseException.__getattribute__", [self]) := by kernel_rfl
section
variable {prog : Program} {w : World} {A : Around} {E : Value → Shared → Prop} {s : Shared} {K : Frag} {x C : Addr} {ox : Obj} {od : Option Obj} {name : Str} {expr : Bool} {Q : Value → Shared → Prop}
/-- an own attribute of an exception -/
theorem get_exc {v : Value} (X : K.In s.heap) (I : InstAt s.heap x ox C od) (hga : findIn K (.ref C) "__getattribute__" = some (some (.builtin "BaseException.__getattribute__"))) (hk : findIn K (.ref C) "__getattr__" = some none)
    (hm : mroIn K C (.type "BaseException") = some true)
    (hf : findObj K C od name = some (.value v)) (hh : handedIn v = true) (h : Q v { s with toks := s.toks + 1 }) : wpAny (model prog w) A (getAttr (.ref x) name expr) Q E s := by
  obtain ⟨hh', g, d, t, os⟩ := s
  have L0 := I.type (M := model prog w)
  have L1 := looks_findIn (M := model prog w) X hga
  have L2 := looks_findIn (M := model prog w) X hk
  have L3 := looks_find (M := model prog w) X I hf
  have L4 : Looks (model prog w) hh' (isInstance (.ref x) (.type "BaseException")) true := I.type.andThen (looks_mroIn X hm)
  unfold getAttr getAttrBy
  refine wpAny_bind (wpAny_mkText (wpAny_holding (wpAny_bind (L0.at (wpAny_bind (L1.at ?_))))))
  show wpAny _ _ (getAttrByItsOwn _ _ _ _ _ _) _ _ _
  unfold getAttrByItsOwn hookBefore
  refine wpAny_bind (L2.at ?_)
  refine wpAny_bind (wpAny_attempt (wpAny_holding ?_))
  unfold callGetattribute
  rw [if_neg (by cases expr <;> decide)]
  unfold boundAndCalled
  rw [ga_bind]
  refine wpAny_bind (wpAny_pure ?_)
  show wpAny _ _ (call (.builtin "BaseException.__getattribute__") [.ref x, .str name t]) _ _ _
  refine wpAny_call ?_
  refine codeAny_call_builtin ga_plain PySem.F.entry_bexc_ga ?_
  refine @check_slot (model prog w) _ _ _ "BaseException.__getattribute__" "BaseException" "__getattribute__" (.ref x) [.str name t] [] _ ga_kind ga_split L4 (PySem.F.args_bexc_ga _ _) ?_
  unfold Builtin.«object.__getattribute__»
  refine wpAny_bind (wpAny_pure (wpAny_bind (wpAny_pure (wpAny_bind (L0.at (wpAny_bind (L3.at ?_)))))))
  refine wpAny_pure ?_
  show wpAny _ _ (handedOut v) _ _ _
  rw [handedOut_of hh]; exact wpAny_pure h
end
theorem putL_len {name : Str} {hsh : Int} {key v : Value} : ∀ (es : List DictEntry), (putL name hsh key v es).length ≤ es.length + 1
  | [] => Nat.le_refl _
  | e :: r => by
    unfold putL; split
    · rw [List.length_cons, List.length_cons]; omega
    · rw [List.length_cons, List.length_cons]; have := putL_len (name := name) (hsh := hsh) (key := key) (v := v) r; omega
theorem refuse_exc (self : Value) : refuseLoop self "__setattr__" [.type "Exception", .type "BaseException", .type "object"] = pure () := by kernel_rfl
section
variable {prog : Program} {w : World} {A : Around} {s : Shared} {K : Frag} {x C D : Addr} {ox : Obj} {od : Option Obj} {name : Str} {tk : Tok} {v : Value} {R : Result → Shared → Prop}
theorem osa_exc (X : K.In s.heap) (I : InstAt s.heap x ox C od) (hm : (clsIn K C).map (·.mro) = some [.ref C, .ref D, .type "Exception", .type "BaseException", .type "object"]) (ht : findIn K (.ref C) name = some none)
    (h : ∀ b, wpAny (model prog w) A.in1 (storeInOwnDict (.ref x) (.ref C) (.str name tk) name v b)
      (fun fin s' => match fin with | .done f => R (.ok f) s' | .again c' => c'.quiet = true ∧ codeAny (model prog w) A c' R s') (fun e s' => R (.error e) s') s) :
    codeAny (model prog w) A (.call (.builtin "object.__setattr__") ⟨[.ref x, .str name tk, v], []⟩) R s := by
  have SF := PySem.F.store_object
  obtain ⟨cd, hc, ho⟩ := Option.map_eq_some_iff.mp hm
  have sub : Looks (model prog w) s.heap (isInstance (.ref x) (.type "object")) true := I.type.andThen (looks_mroIn X (by unfold mroIn; rw [hc, Option.bind_some, ho]; simp))
  refine codeAny_call_builtin SF.slot.plain SF.entry ?_
  refine @check_slot (model prog w) _ _ s "object.__setattr__" "object" "__setattr__" (.ref x) [.str name tk, v] [] _ SF.kind SF.split sub (SF.args (.ref x) (.str name tk) v) ?_
  have hmr : Looks (model prog w) s.heap (mroOf (.ref C)) cd.mro := (looks_clsIn X hc).andThen .now
  rw [osa_eq, refuse_eq]
  refine wpAny_bind (wpAny_bind (I.type.here (wpAny_bind (hmr.here ?_))))
  rw [ho, refuseLoop_ref, refuseLoop_ref, refuse_exc]
  refine wpAny_pure (wpAny_bind (I.type.here (wpAny_bind ((looks_findIn X ht).here (wpAny_bind (wpAny_pure ?_))))))
  exact h _
/-- a name is laid into a dict -/
theorem store_in {E : Value → Shared → Prop} {dx : Addr} {es : List DictEntry} {n : Nat} {Q : Fin → Shared → Prop} (hd : s.heap.get? dx = some (dictOf es n)) (hr : es.any (·.refKey) = false) (hz : es.length ≤ 100)
    (h : ∀ h', h'.get? dx = some (dictOf (putL name (PyData.keyHash w.params name) (.str name s.toks) v es) (putN name es n)) → (∀ b o, b ≠ dx → s.heap.get? b = some o → h'.get? b = some o) → Q (.done (.ret .none)) { s with heap := h', toks := s.toks + 1 }) :
    wpAny (model prog w) A (storeInDict dx (.str name tk) name v) Q E s := by
  unfold storeInDict newKeyGuard
  refine wpAny_bind (wpAny_pure (wpAny_bind ?_))
  unfold nsSet
  refine wpAny_bind (wpAny_bind (wpAny_askSetting (wpAny_pure (wpAny_bind (wpAny_mkText (wpAny_bind (wpAny_loadPart hd ?_)))))))
  have c : (!es.toArray.any (·.key.isStr name) && es.toArray.any (·.refKey)) = false := by
    rw [← Array.any_toList, ← Array.any_toList]
    show (_ && es.any (·.refKey)) = false
    rw [hr, Bool.and_false]
  unfold dictOf
  dsimp only
  rw [aRefKeyMayBeTheName_at, c]
  rw [if_neg (by decide)]
  refine wpAny_updatePart hd ?_
  have D := Heap.get?_update_self (Obj.putName name (PyData.keyHash w.params name) (.str name s.toks) v) hd (by rw [putName_dict]; rfl)
  rw [putName_dict] at D
  have hlen : (putL name (PyData.keyHash w.params name) (.str name s.toks) v es).length ≤ 101 := Nat.le_trans (putL_len _) (by omega)
  refine wpAny_bind (wpAny_lookBehind D (pastItsLine_dict (by rw [List.size_toArray, sizeLine_eq]; omega)) ?_)
  exact wpAny_pure (h _ D fun b o hb e => (Heap.get?_update_ne _ _ _ _ hb).trans e)
/-- an exception as it is made, its dict at d -/
noncomputable def excO (t : Value) (dd : Option Addr) : Obj := { cls := .ref 45, dict := dd, data := .fields #[t, .none, .none, .none, .bool false, .none] }
/-- what is asked of the exception's class -/
structure ExcK (K : Frag) : Prop where
  seta : findIn K (.ref 45) "__setattr__" = some (some (.builtin "object.__setattr__"))
  geta : findIn K (.ref 45) "__getattribute__" = some (some (.builtin "BaseException.__getattribute__"))
  gatt : findIn K (.ref 45) "__getattr__" = some none
  init : findIn K (.ref 45) "__init__" = some (some (.ref 29))
  initf : typeIn K (.ref 29) = some (.type "function")
  mro : (clsIn K 45).map (·.mro) = some [.ref 45, .ref 32, .type "Exception", .type "BaseException", .type "object"]
  hasd : (clsIn K 45).map (·.hasDict) = some true
  attr : ∀ n ∈ (["kind", "at", "detail"] : List Str), findIn K (.ref 45) n = some none
theorem set_exc0 {E : Value → Shared → Prop} {t : Value} {Q : Unit → Shared → Prop} (X : K.In s.heap) (ck : ExcK K) (hn : name ∈ (["kind", "at", "detail"] : List Str)) (hx : s.heap.get? x = some (excO t none))
    (h : ∀ h' tk d, h'.get? x = some (excO t (some d)) → s.heap.get? d = none → h'.get? d = some (dictOf [⟨PyData.keyHash w.params name, .str name (s.toks + 1), v⟩] 1) → (∀ b o, b ≠ x → s.heap.get? b = some o → h'.get? b = some o) → Q () { s with heap := h', toks := tk }) :
    wpAny (model prog w) A (setAttr (.ref x) name v) Q E s := by
  have I : InstAt s.heap x (excO t none) 45 none := ⟨hx, rfl, rfl, trivial⟩
  refine set_plain X I ck.seta ?_
  refine osa_exc (s := { s with toks := s.toks + 1 }) (D := 32) X I ck.mro (ck.attr name hn) fun b => ?_
  obtain ⟨cd, hc, hd'⟩ := Option.map_eq_some_iff.mp ck.hasd
  have hd2 : cd.hasDict = true := hd'
  refine wpAny_bind (wpAny_pure (wpAny_bind (wpAny_bind (wpAny_loadPart hx (wpAny_bind ((looks_clsIn X hc).at ?_))))))
  rw [hd2]
  have hxs : x ≠ s.heap.objs.size := Nat.ne_of_lt (Heap.lt_size hx)
  have hx1 : (s.heap.push { cls := .type "dict", data := .dict #[] }).get? x = some (excO t none) := Heap.get?_push_of_some _ hx
  refine wpAny_bind (wpAny_alloc ?_)
  refine wpAny_bind (wpAny_update hx1 ?_)
  refine wpAny_pure ?_
  have hD : ((s.heap.push { cls := .type "dict", data := .dict #[] }).update x fun o => { o with dict := some s.heap.objs.size }).get? s.heap.objs.size = some (dictOf [] 0) :=
    (Heap.get?_update_ne _ _ _ _ hxs.symm).trans (Heap.get?_push_size _ rfl)
  have hX : ((s.heap.push { cls := .type "dict", data := .dict #[] }).update x fun o => { o with dict := some s.heap.objs.size }).get? x = some (excO t (some s.heap.objs.size)) := Heap.get?_update_self _ hx1 rfl
  refine store_in (s := { heap := (s.heap.push { cls := .type "dict", data := .dict #[] }).update x fun o => { o with dict := some s.heap.objs.size }, gens := s.gens, drawn := s.drawn, toks := s.toks + 1, os := s.os }) hD rfl (Nat.zero_le _) fun h' h1 h2 => ?_
  refine h h' _ s.heap.objs.size (h2 x _ hxs hX) get_size h1 fun b o hb e => h2 b o (fun q => ?_) ((Heap.get?_update_ne _ _ _ _ hb).trans (Heap.get?_push_of_some _ e))
  rw [q, get_size] at e; cases e
theorem set_exc1 {E : Value → Shared → Prop} {t : Value} {d : Addr} {es : List DictEntry} {n : Nat} {Q : Unit → Shared → Prop} (X : K.In s.heap) (ck : ExcK K) (hn : name ∈ (["kind", "at", "detail"] : List Str)) (hx : s.heap.get? x = some (excO t (some d))) (hd : s.heap.get? d = some (dictOf es n)) (hr : es.any (·.refKey) = false) (hz : es.length ≤ 100)
    (h : ∀ h' tk, h'.get? d = some (dictOf (putL name (PyData.keyHash w.params name) (.str name (s.toks + 1)) v es) (putN name es n)) → (∀ b o, b ≠ d → s.heap.get? b = some o → h'.get? b = some o) → Q () { s with heap := h', toks := tk }) :
    wpAny (model prog w) A (setAttr (.ref x) name v) Q E s := by
  have I : InstAt s.heap x (excO t (some d)) 45 (some (dictOf es n)) := ⟨hx, rfl, rfl, hd⟩
  refine set_plain X I ck.seta ?_
  refine osa_exc (s := { s with toks := s.toks + 1 }) (D := 32) X I ck.mro (ck.attr name hn) fun b => ?_
  obtain ⟨cd, hc, hd'⟩ := Option.map_eq_some_iff.mp ck.hasd
  have hd2 : cd.hasDict = true := hd'
  refine wpAny_bind (wpAny_pure (wpAny_bind (wpAny_bind (wpAny_loadPart hx (wpAny_bind ((looks_clsIn X hc).at ?_))))))
  rw [hd2]
  refine wpAny_pure (a := some d) ?_
  exact store_in (s := { s with toks := s.toks + 1 }) hd hr hz fun h' h1 h2 => h h' _ h1 h2
end
end Mine
end
section
open PySem PySem.W PySem.Calls PyProof.Rows PySem.Builtin.Str
set_option Elab.async false
set_option autoImplicit false
set_option linter.all false
set_option maxRecDepth 100000
set_option maxHeartbeats 1000000
namespace Mine
/-- DesignError's class as an object -/
noncomputable def IsDE (h : Heap) (bs : List Value) : Prop := ∃ nm q N hdct sn sub ab col dd k0 k1 k2 k3 k5, h.get? 45 = some (excClassObj nm q 45 N bs [.ref 32, .type "Exception", .type "BaseException", .type "object"] hdct sn sub ab col dd k0 k1 k2 k3 k5 "Exception.__new__")
section
variable {prog : Program} {w : World} {A : Around} {h : Heap} {g : Array GenState} {d : Drawn} {t : Nat} {os : OsState}
variable {nm q : Str} {N : Addr} {bs : List Value} {hdct : Bool} {sn : List Str} {sub : List Value} {ab : Bool} {col : Option Bool} {dd : Option Addr} {k0 k1 k2 k3 k5 : Option Value} {K : Frag}
theorem exc_make {R : Result → Shared → Prop} {rest : List Value} (hC : h.get? 45 = some (excClassObj nm q 45 N bs [.ref 32, .type "Exception", .type "BaseException", .type "object"] hdct sn sub ab col dd k0 k1 k2 k3 k5 "Exception.__new__"))
    (hq : R (.ok (.ret (.ref (h.objs.size + 1)))) ⟨(h.push { cls := .type "tuple", data := .seq rest.toArray }).push (excO (.ref h.objs.size) none), g, d, t, os⟩) (hrest : rest.length ≤ sizeLine) :
    codeAny (model prog w) A (.builtin "Exception.__new__" ⟨.ref 45 :: rest, []⟩) R ⟨h, g, d, t, os⟩ := by
  have Fn := PySem.F.excBase_Exception
  have hends := Fn.ends
  have hcB : (Value.ref 45 :: [.ref 32, .type "Exception", .type "BaseException", .type "object"]).contains (.type "Exception") = true := by decide +kernel
  have hcA : (Value.ref 45 :: [.ref 32, .type "Exception", .type "BaseException", .type "object"]).contains (.type "AttributeError") = false := by decide +kernel
  have hcN : (Value.ref 45 :: [.ref 32, .type "Exception", .type "BaseException", .type "object"]).contains (.type "NameError") = false := by decide +kernel
  refine PySem.codeAny_builtinAt Fn.entry ?_
  unfold Builtin.«BaseException.__new__»
  refine PySem.wpAt_bind ?_
  show PySem.wpAt _ _ _ (stack >>= _) _ _ _
  refine PySem.wpAt_bind (PySem.wpAt_stack fun p below => PySem.wpAt_of_wpAny ?_)
  wp_walk
  refine PySem.wpAt_of_wpAny ?_
  rw [Fn.owner]
  repeat (first | with_reducible refine wpAny_madeHere_exc Fn.canon hC ?_ | with_reducible refine wpAny_loadPart_at hC ?_ | (with_reducible refine wpAny_isSubtype_exc hC ?_; first | rw [hcB] | rw [hcA] | rw [hcN]) | wp_step)
  show R _ _
  rw [Heap.size_push]
  exact hq
theorem exc_call0 {E : Value → Shared → Prop} {rest : List Value} {Q : PySem.Fin → Shared → Prop} (X : K.In h) (ck : ExcK K)
    (hC : h.get? 45 = some (excClassObj nm q 45 N bs [.ref 32, .type "Exception", .type "BaseException", .type "object"] hdct sn sub ab col dd k0 k1 k2 k3 k5 "Exception.__new__"))
    (hq : ∀ h' e t', (∀ b o, h.get? b = some o → h'.get? b = some o) → h.get? e = none → h'.get? e = some (excO (.ref t') none) →
      wpAny (model prog w) A (call (.ref 29) (.ref e :: rest)) (fun r s' => r = .none ∧ Q (.done (.ret (.ref e))) s') E ⟨h', g, d, t, os⟩) (hrest : rest.length ≤ sizeLine) :
    wpAny (model prog w) A (Builtin.«type.__call__» ⟨.ref 45 :: rest, []⟩) Q E ⟨h, g, d, t, os⟩ := by
  have Fn := PySem.F.excBase_Exception
  repeat (first | with_reducible refine wpAny_loadPart_at hC ?_ | with_reducible refine wpAny_madeBy_exc hC ?_ | wp_step)
  refine codeAny_call_builtin_code (Code.quiet_builtin _ Fn.quiet) (wpAny_check_new_subU Fn (bmB := [.ref 32, .type "Exception", .type "BaseException", .type "object"]) (by decide +kernel) OwnTail.base hC ?_)
  refine exc_make hC ?_ hrest
  show wpAny _ _ _ _ _ _
  have kk : ∀ b o, h.get? b = some o → ((h.push { cls := .type "tuple", data := .seq rest.toArray }).push (excO (.ref h.objs.size) none)).get? b = some o := fun b o e => Heap.get?_push_of_some _ (Heap.get?_push_of_some _ e)
  have hC₁ := kk _ _ hC
  have X₁ : K.In ((h.push { cls := .type "tuple", data := .seq rest.toArray }).push (excO (.ref h.objs.size) none)) := fun a o e => kk _ _ (X a o e)
  have hget : ((h.push { cls := .type "tuple", data := .seq rest.toArray }).push (excO (.ref h.objs.size) none)).get? (h.objs.size + 1) = some (excO (.ref h.objs.size) none) := by
    have := Heap.get?_push_size (h.push { cls := .type "tuple", data := .seq rest.toArray }) (o := excO (.ref h.objs.size) none) rfl
    rw [Heap.size_push] at this; exact this
  generalize hh2 : (h.push { cls := .type "tuple", data := .seq rest.toArray }).push (excO (.ref h.objs.size) none) = h2 at kk hC₁ X₁ hget
  have hcC : (Value.ref 45 :: [.ref 32, .type "Exception", .type "BaseException", .type "object"]).contains (.ref 45) = true := by decide +kernel
  unfold isInstance
  repeat (first | with_reducible refine wpAny_loadPart_at hget ?_ | wp_step)
  show wpAny _ _ (isSubtype (.ref 45) (.ref 45)) _ _ _
  refine wpAny_isSubtype_exc hC₁ ?_
  rw [hcC]
  repeat (first | with_reducible refine wpAny_loadPart_at hget ?_ | wp_step)
  show wpAny _ _ (typeLookup (.ref 45) _) _ _ _
  refine (looks_findIn X₁ ck.init).at ?_
  refine wpAny_holding (wpAny_bind ?_)
  refine (bind_fn X₁ _ ck.initf).at ?_
  refine wpAny_bind (wpAny_mono (hq h2 (h.objs.size + 1) h.objs.size kk (Heap.get?_none_of_le (Nat.le_succ _)) hget) (fun r s' hr => ?_) fun _ _ x => x)
  obtain ⟨rfl, hQ⟩ := hr
  wp_walk
  exact hQ
theorem exc_call {E : Value → Shared → Prop} {rest : List Value} {Q : Value → Shared → Prop} (X : K.In h) (ck : ExcK K) (hC : IsDE h bs)
    (hq : ∀ h' e t', (∀ b o, h.get? b = some o → h'.get? b = some o) → h.get? e = none → h'.get? e = some (excO (.ref t') none) →
      wpAny (model prog w) (A.under (.builtin "type.__call__" ⟨.ref 45 :: rest, []⟩)) (call (.ref 29) (.ref e :: rest)) (fun r s' => r = .none ∧ Q (.ref e) s') E ⟨h', g, d, t, os⟩) (hrest : rest.length ≤ sizeLine) :
    wpAny (model prog w) A (call (.ref 45) rest) Q E ⟨h, g, d, t, os⟩ := by
  obtain ⟨nm, q, N, hdct, sn, sub, ab, col, dd, k0, k1, k2, k3, k5, hC⟩ := hC
  have f1 := tc_lookup
  have f2 := tc_bind (.ref 45)
  have hT : (⟨h, g, d, t, os⟩ : Shared).TypeIs (.ref 45) "type" := ⟨_, hC, rfl⟩
  refine wpAny_call (codeAny_of_tree ?_)
  show wpAny _ _ (callAny (.ref 45) _) _ _ _
  repeat (any_goals (first | assumption | with_reducible refine wpAny_loadPart_at hC ?_ | wp_step))
  refine ⟨rfl, ?_⟩
  refine codeAny_call_builtin_at (Code.quiet_builtin _ (by decide +kernel)) entry_typeCall (wpAny_check_type_call_sub hC (exc_call0 (hrest := hrest) X ck hC fun h' e t' h1 h2 h3 => ?_))
  exact hq h' e t' h1 h2 h3
end
end Mine
end
section
open PySem PySem.W PySem.Calls PyProof.Rows PySem.Builtin.Str
set_option Elab.async false
set_option autoImplicit false
set_option linter.all false
set_option maxRecDepth 100000
set_option maxHeartbeats 1000000
namespace Mine
/-- what is asked of the exception's class, its __init__ as well -/
structure ExcK2 (K : Frag) : Prop extends ExcK K where
  bind : ∀ (S : Setting) (a b c d : Value), peek K S (bindArgs fd_einit ⟨[a, b, c, d], []⟩) = some ([("self", a), ("kind", b), ("at", c), ("detail", d)] : List (Str × Value))
section
variable {prog : Program} {w : World} {A : Around} {E : Value → Shared → Prop} {K : Frag}
/-- self.name = x -/
theorem ex_self {s : Shared} {env : Env} {m : Str → Option Value} {p1 p2 p3 pos : Pos} {name : Str} {e : Addr} {v : Value} {Q : Flow → Shared → Prop} (hk : env.scope.kind = .function) (h1 : env.kindOf "self" = some .local) (h2 : env.kindOf name = some .local) (hn : s.heap.Ns env.locals m) (e1 : m "self" = some (.ref e)) (e2 : m name = some v) (hd : (name == ("__debug__" : Str)) = false)
    (h : wpAny (model prog w) A (setAttr (.ref e) name v) (fun _ s' => Q .next s') E s) (hs : swapsWith (.Name name p3) (some (.Attribute (.Name "self" p1) name p2)) pos.line env = pure false) :
    wpAny (model prog w) A (exec (.Assign [.Attribute (.Name "self" p1) name p2] (.Name name p3) pos) env) Q E s := by
  refine plainObj_wpAny_Assign_Attribute ?_ hs
  refine wpAny_Name (wpAny_loadName_local hk h2 hn e2 ?_) hd
  refine wpAny_Name (wpAny_loadName_local hk h1 hn e1 ?_) (by decide)
  exact h
theorem einit_locs (a b c d : Value) : ∀ x ∈ ([("self", a), ("kind", b), ("at", c), ("detail", d)] : List (Str × Value)), fd_einit.scope.names.lookup x.1 = some .local := by
  intro x hx
  simp only [List.mem_cons, List.not_mem_nil, or_false] at hx
  rcases hx with rfl | rfl | rfl | rfl <;> rfl
theorem init_exc {s : Shared} {o29 : Obj} {e : Addr} {t : Value} {vK vA vD : Value} {Q : Value → Shared → Prop} {hB : Heap} (XB : K.In hB) (heB : hB.get? e = none) (hkB : ∀ b o, hB.get? b = some o → s.heap.get? b = some o) (ck : ExcK2 K) (hA : A.depth < recursionLimit) (h29 : s.heap.get? 29 = some o29) (hd29 : o29.data = .func fd_einit) (hnl : s.heap.NoLimit) (hcr : s.heap.CodeRec fd_einit.code fd_einit.qualname)
    (hx : s.heap.get? e = some (excO t none))
    (hq : ∀ h' tk d es n, h'.get? e = some (excO t (some d)) → s.heap.get? d = none → h'.get? d = some (dictOf es n) → W.getL "kind" es = some (some vK) → W.getL "at" es = some (some vA) → W.getL "detail" es = some (some vD) → (∀ b o, b ≠ e → s.heap.get? b = some o → h'.get? b = some o) → Q .none { s with heap := h', toks := tk }) :
    wpAny (model prog w) A (call (.ref 29) [.ref e, vK, vA, vD]) Q E s := by
  have hLe : s.heap.objs.size ≠ e := Nat.ne_of_gt (Heap.lt_size hx)
  have X : K.In s.heap := fun a o q => hkB _ _ (XB a o q)
  refine wpAny_call (codeAny_call_def (fd := fd_einit) (body := einitBody) (binds := [("self", .ref e), ("kind", vK), ("at", vA), ("detail", vD)]) hA h29 hd29 hnl hcr rfl (kp_binds X fun S => ck.bind S _ _ _ _) (by decide +kernel) (einit_locs _ _ _ _) (fun h0 hns hk0 => ?_) rfl rfl rfl)
  have X0 : K.In h0 := fun a o q => hk0 _ _ (X a o q)
  refine wpAny_execs_cons (ex_self (name := "kind") rfl rfl rfl hns rfl rfl (by decide) (set_exc0 X0 ck.toExcK (by simp) (hk0 _ _ hx) fun h1 tk1 d g1 g2 g3 g4 => ?_) rfl)
  show wpAny _ _ (execs _ _) _ _ _
  obtain ⟨oL, esL, epL, eL, rL⟩ := hns
  have hde : d ≠ e := fun q => by rw [q, hk0 _ _ hx] at g2; cases g2
  have hdL : d ≠ s.heap.objs.size := fun q => by rw [q, eL] at g2; cases g2
  have hdB : ∀ b o, hB.get? b = some o → b ≠ d := fun b o q z => by rw [← z, hk0 _ _ (hkB _ _ q)] at g2; cases g2
  have heB' : ∀ b o, hB.get? b = some o → b ≠ e := fun b o q z => by rw [z, heB] at q; cases q
  have X1 : K.In h1 := fun a o q => g4 _ _ (heB' _ _ (XB a o q)) (X0 a o q)
  have R1 : ∀ tok : Tok, DictRep [] (fun _ => none) [⟨PyData.keyHash w.params "kind", .str "kind" tok, vK⟩] [("kind", .val vK)] := fun tok => ⟨⟨_, rfl⟩, .val _, trivial⟩
  refine wpAny_execs_cons (ex_self (name := "at") (m := _) rfl rfl rfl ⟨oL, esL, epL, g4 _ _ hLe eL, rL⟩ rfl rfl (by decide) (set_exc1 X1 ck.toExcK (by simp) g1 g3 (R1 _).noref (by show 1 ≤ 100; decide) fun h2 tk2 g5 g6 => ?_) rfl)
  show wpAny _ _ (execs _ _) _ _ _
  have X2 : K.In h2 := fun a o q => g6 _ _ (hdB _ _ (XB a o q)) (X1 a o q)
  have R2 := (R1 (s.toks + 4 + 1)).put (name := "at") (hsh := PyData.keyHash w.params "at") (t := tk1 + 1) (Rep.val (ρ := []) (F := fun _ => none) vA)
  refine wpAny_execs_cons (ex_self (name := "detail") (m := _) rfl rfl rfl ⟨oL, esL, epL, g6 _ _ hdL.symm (g4 _ _ hLe eL), rL⟩ rfl rfl (by decide) (set_exc1 X2 ck.toExcK (by simp) (g6 _ _ hde.symm g1) g5 R2.noref (Nat.le_trans (putL_len _) (by show 1 + 1 ≤ 100; decide)) fun h3 tk3 g7 g8 => ?_) rfl)
  show wpAny _ _ (execs _ _) _ _ _
  have R3 := R2.put (name := "detail") (hsh := PyData.keyHash w.params "detail") (t := tk2 + 1) (Rep.val (ρ := []) (F := fun _ => none) vD)
  have val : ∀ {name : Str} {v : Value}, dfind name (dput "detail" (.val vD) (dput "at" (.val vA) [("kind", .val vK)])) = some (.val v) → W.getL name _ = some (some v) := fun hh => by
    obtain ⟨u, e1, e2⟩ := R3.getL hh
    cases e2; exact e1
  refine wpAny_execs_nil ?_
  refine hq h3 _ d _ _ (g8 _ _ hde.symm (g6 _ _ hde.symm g1)) ?_ g7 (val rfl) (val rfl) (val rfl) fun b o hb q => ?_
  · cases q : s.heap.get? d with
    | none => rfl
    | some o => rw [hk0 _ _ q] at g2; cases g2
  · have hbd : b ≠ d := fun z => by rw [← z, hk0 _ _ q] at g2; cases g2
    exact g8 _ _ hbd (g6 _ _ hbd (g4 _ _ hb (hk0 _ _ q)))
end
end Mine
end
section
open PySem PySem.W PySem.Calls PyProof.Rows PySem.Builtin.Str
set_option Elab.async false
set_option autoImplicit false
set_option linter.all false
set_option maxRecDepth 100000
set_option maxHeartbeats 1000000
namespace Mine
theorem IsDE.keeps {h h' : Heap} {bs : List Value} (x : IsDE h bs) (k : ∀ b o, h.get? b = some o → h'.get? b = some o) : IsDE h' bs := by
  obtain ⟨nm, q, N, hdct, sn, sub, ab, col, dd, k0, k1, k2, k3, k5, e⟩ := x
  exact ⟨nm, q, N, hdct, sn, sub, ab, col, dd, k0, k1, k2, k3, k5, k _ _ e⟩
theorem raise_exc {M : Model} {A : Around} {E : Value → Shared → Prop} {s : Shared} {env : Env} {bs : List Value} {x : Sem Value} {Q : Flow → Shared → Prop} (hh : A.handled = none)
    (h : wpAny M A x (fun v s₁ => ∃ e t d, v = .ref e ∧ IsDE s₁.heap bs ∧ s₁.heap.get? e = some (excO t (some d)) ∧ E (.ref e) s₁) E s) :
    wpAny M A (raiseStmt env (some x) none) Q E s := by
  have hcB : (Value.ref 45 :: [.ref 32, .type "Exception", .type "BaseException", .type "object"]).contains (.type "BaseException") = true := by decide +kernel
  unfold raiseStmt
  refine wpAny_bind (wpAny_mono h (fun v s₁ h₁ => ?_) fun _ _ x => x)
  obtain ⟨e, t, d, rfl, ⟨nm, q, N, hdct, sn, sub, ab, col, dd, k0, k1, k2, k3, k5, hC⟩, he, hE⟩ := h₁
  obtain ⟨hp, g, dr, tk, os⟩ := s₁
  have he' : hp.get? e = some { cls := .ref 45, dict := some d, data := .fields #[t, .none, .none, .none, .bool false, .none] } := he
  repeat (first | with_reducible refine wpAny_loadPart_at he' ?_ | with_reducible refine wpAny_loadPart_at hC ?_ | (with_reducible refine wpAny_isSubtype_exc hC ?_; rw [hcB]) | wp_step)
  exact wpAny_raiseNew_none hh hE
/-- all that is asked of the ground for the exception -/
noncomputable def ExcG (P : Pg) : Prop := ∃ K bs, K.In P.h0 ∧ ExcK2 K ∧ IsDE P.h0 bs ∧ keepIn K (.ref 45) = true
section
variable {C : Cx} {lo : List (Option PV)} {st st1 : List Cell} {vs : List PV}
/-- raise DesignError(..) -/
theorem raise_de {s : Shared} {ρ : List Addr} {F : Frz} {f e0 : Expr} {args : List Expr} {cpos pos : Pos} {E : Value → Shared → Prop} {Q : Flow → Shared → Prop} {pK pA pD : PV} (S : Sim C lo st ρ F s.heap) (H : ExcG C.P) (h29 : C.T.fns[38]? = some (29, fd_einit)) (hlv : 3 ≤ C.lv)
    (hf : Ev C lo st f (.val (.ref 45)) st) (ha : Evs C lo st (e0 :: args) [pK, pA, pD] st1)
    (h : ∀ h' tk ρ' F' e t d es n vK vA vD, h'.get? e = some (excO t (some d)) → h'.get? d = some (dictOf es n) → W.getL "kind" es = some (some vK) → W.getL "at" es = some (some vA) → W.getL "detail" es = some (some vD) → Rep ρ' F' vK pK → Rep ρ' F' vA pA → Rep ρ' F' vD pD → Sim C lo st1 ρ' F' h' → ρ <+: ρ' → FLe F F' → e ∉ ρ' → F' e = none → d ∉ ρ' → F' d = none → e ≠ C.env.locals → d ≠ C.env.locals → E (.ref e) (Rest s h' tk))
    (hq : starEach (e0 :: args) C.env = (false, eval e0 C.env) :: starEach args C.env := by rfl) (hp : ∀ pos : Pos, (backTo pos (starEach args C.env)).any (·.1) = false := by intro _; rfl)
    (he : eval (.Call f (e0 :: args) [] cpos) C.env = (do callWith cpos (← eval f C.env) [] (backTo cpos (starEach (e0 :: args) C.env)) (backToKw cpos (keywordEach [] C.env))) := by rfl) :
    wpAny (model C.P.prog C.P.w) C.A (exec (.Raise (some (.Call f (e0 :: args) [] cpos)) none pos) C.env) Q E s := by
  obtain ⟨K, bs, X, ck, hDE, hkeep⟩ := H
  rw [arm_exec_Raise]
  refine wpAny_bind (wpAny_standAt ?_)
  show wpAny _ _ (raiseStmt C.env (some (do let v ← eval (.Call f (e0 :: args) [] cpos) C.env; standAt pos; pure v)) none) _ _ _
  refine raise_exc (bs := bs) S.good.hd ?_
  refine wpAny_bind ?_
  refine Call_ (wpAny_noE (hf.run s ρ F S _ fun v h1 t1 ρ1 F1 r1 S1 p1 f1 => ?_)) he
  cases r1.toVal
  suffices hs : wpAny (model C.P.prog C.P.w) C.A (spliced (backTo cpos (starEach (e0 :: args) C.env))) (fun vs s1 => K.In s1.heap ∧ wpAny (model C.P.prog C.P.w) C.A (call (.ref 45) vs) (fun v s3 => wpAny (model C.P.prog C.P.w) C.A (do standAt pos; pure v) (fun v s₁ => ∃ e t d, v = .ref e ∧ IsDE s₁.heap bs ∧ s₁.heap.get? e = some (excO t (some d)) ∧ E (.ref e) s₁) E s3) E s1) E (Rest s h1 t1) by
    rw [hq] at hs ⊢
    exact callWith_of (P := K.In) (by show ((false || (backTo cpos (starEach args C.env)).any (·.1)) || false) = false; rw [hp]; rfl) (keeps_K hkeep) (evalArgs_plain hs)
  refine wpAny_noE (ha.run cpos _ ρ1 F1 S1 _ fun rs h2 t2 ρ2 F2 r2 S2 p2 f2 => ⟨fun a o q => S2.grd _ _ (X a o q), ?_⟩)
  cases r2 with
  | cons rK r2 =>
  cases r2 with
  | cons rA r2 =>
  cases r2 with
  | cons rD r2 =>
  cases r2
  rename_i vK vA vD
  have X2 : K.In h2 := fun a o q => S2.grd _ _ (X a o q)
  obtain ⟨o29, ho29, hd29, hcr⟩ := S2.good.gd.fns _ (List.mem_of_getElem? h29)
  have hro := S.good.room
  refine exc_call (bs := bs) (h := h2) X2 ck.toExcK (hDE.keeps S2.grd) (fun h3 e t' k1 k2 k3 => ?_) (by rw [sizeLine_eq]; show 3 ≤ _; omega)
  refine init_exc (s := ⟨h3, s.gens, s.drawn, _, s.os⟩) (hB := h2) X2 k2 k1 ck (Nat.lt_of_le_of_lt (Nat.add_le_add_left (m := 1) (by first | decide | exact Nat.le_refl _ | exact Nat.zero_le _) C.A.depth) (by omega)) (k1 _ _ (S2.grd _ _ ho29)) hd29 (S2.good.gd.nolim.keeps fun b o q => k1 _ _ (S2.grd _ _ q)) (hcr.keeps fun b o q => k1 _ _ (S2.grd _ _ q)) k3 fun h4 tk4 d es n e1 e2 e3 g1 g2 g3 hk => ⟨rfl, ?_⟩
  have kk : ∀ b o, h2.get? b = some o → h4.get? b = some o := fun b o q => hk _ _ (fun z => by rw [z, k2] at q; cases q) (k1 _ _ q)
  have d2 : h2.get? d = none := by
    cases q : h2.get? d with
    | none => rfl
    | some o => have := k1 _ _ q; rw [show h3.get? d = none from e2] at this; cases this
  obtain ⟨x1, x2, x3⟩ := S2.fresh k2
  obtain ⟨y1, y2, y3⟩ := S2.fresh d2
  refine wpAny_bind (wpAny_standAt (wpAny_pure ⟨e, _, d, rfl, hDE.keeps fun b o q => kk _ _ (S2.grd _ _ q), e1, ?_⟩))
  exact h h4 _ ρ2 F2 e _ d es n vK vA vD e1 e3 g1 g2 g3 rK rA rD (S2.grow kk) (p1.trans p2) (f1.trans f2) x2 x1 y2 y1 x3 y3
end
end Mine
end
section
open PySem PySem.W PySem.Calls PyProof.Rows PySem.Builtin.Str
set_option Elab.async false
set_option autoImplicit false
set_option linter.all false
set_option maxRecDepth 100000
set_option maxHeartbeats 1000000
namespace Mine
/-- a def's entry, whatever its body does -/
theorem code_raw {P : Pg} {T : Tabs} {lv k : Nat} {f : Addr} {fd : FuncData} {params keys gkeys : List Str} {body : List Stmt} {vs : List PV} {st : List Cell} (ok : FnOK fd params keys gkeys body) (hk : T.fns[k]? = some (f, fd)) (hn : vs.length = params.length)
    (A : Around) (s : Shared) (ρ : List Addr) (F : Frz) (rs : List Value) (G : Gd P T) (hA : A.handled = none) (hro : A.depth + (lv + 1) < recursionLimit) (hu : A.units + 20 * (lv + 1) < cLine)
    (S : SimS P st ρ F s.heap) (hr : Reps ρ F rs vs) (R : Result → Shared → Prop)
    (h : ∀ (L : Addr) (h1 : Heap) (tk : Nat), s.heap.get? L = none → Sim (mkCx P T A fd L f keys gkeys lv) (vs.map some ++ List.replicate (keys.length - vs.length) none) st ρ F h1 →
      wpAny (model P.prog P.w) (A.deeper (callEnv fd L f)) (execs body (callEnv fd L f)) (fun fl s' => R (.ok (.ret (match fl with | .ret v => v | _ => .none))) s')
        (fun e s' => wpAny (model P.prog P.w) (A.deeper (callEnv fd L f)) (leaving (callEnv fd L f) e) (fun _ s'' => R (.error e) s'') (fun e' s'' => R (.error e') s'') s') (Rest s h1 tk)) :
    codeAny (model P.prog P.w) A (.call (.ref f) ⟨rs, []⟩) R s := by
  obtain ⟨o, ho0, hd, hcd0⟩ := G.fns _ (List.mem_of_getElem? hk)
  have grd : ∀ x o, P.h0.get? x = some o → s.heap.get? x = some o := fun x o e => S.fin x o (S.gnd x o e)
  have ho := grd _ _ ho0
  obtain ⟨more, hpar⟩ := ok.par
  have hpk : ∀ (i : Nat) (x : Str), params[i]? = some x → keys[i]? = some x := fun i x e => by rw [hpar]; exact pre_get (List.prefix_append _ _) e
  have hpn : params.Nodup := (hpar ▸ ok.nd : (params ++ more).Nodup).sublist (List.sublist_append_left _ _)
  refine codeAny_call_def (fd := fd) (body := body) (binds := params.zip rs) (by omega) ho hd (G.nolim.keeps grd) (hcd0.keeps grd) ok.body (.of_eq (ok.bind rs (by rw [hr.length, hn]))) ok.cell (fun x hx => ?_) (fun h1 hns hk1 => ?_) ok.co ok.gen ok.kind
  · have hm : x.1 ∈ params := (List.of_mem_zip hx).1
    exact ok.locs _ (hpar ▸ List.mem_append_left _ hm)
  · have fr := S.fresh (get_size (h := s.heap))
    have good : GoodCx (mkCx P T A fd s.heap.objs.size f keys gkeys lv) :=
      ⟨G, hA, by show A.depth + 1 + lv < recursionLimit; omega, by show A.units + 3 + 20 * lv < cLine; omega, ok.kind, ok.locs, ok.globs, ok.nd, (fun q hq => nomatch hq), ok.glb, ok.blt⟩
    refine h s.heap.objs.size h1 (s.toks + (params.zip rs).length) get_size ⟨good, S.keep fun a o e _ => hk1 a o e, fr.1, fr.2, ?_, (fun q hq => nomatch hq), _, hns, fun i x hx => ?_⟩
    · show (vs.map some ++ _).length = keys.length
      rw [List.length_append, List.length_map, List.length_replicate, hpar, List.length_append, hn]; omega
    · rcases Nat.lt_or_ge i vs.length with q | q
      · rw [List.getElem?_append_left (by rw [List.length_map]; exact q), List.getElem?_map, List.getElem?_eq_getElem q]
        obtain ⟨v, hv, rv⟩ := hr.get (List.getElem?_eq_getElem q)
        refine ⟨v, lookup_zip hpn (by rw [hr.length, hn]) (i := i) ?_ hv, rv⟩
        have hx' : keys[i]? = some x := hx
        have hi : i < params.length := hn ▸ q
        rw [hpar, List.getElem?_append_left hi] at hx'
        exact hx'
      · rw [List.getElem?_append_right (by rw [List.length_map]; exact q)]
        rcases Nat.lt_or_ge (i - (vs.map some).length) (keys.length - vs.length) with z | z
        · rw [List.getElem?_replicate, if_pos z]; trivial
        · rw [List.getElem?_eq_none (by rw [List.length_replicate]; exact z)]; trivial
noncomputable abbrev CR (P : Pg) (A : Around) (L : Addr) : Cx := mkCx P tabs A fd_run_late L 669 ["kernel", "name", "args", "thread", "radix"] ["shown_radix", "DesignError", "shown_text"] 11
section
variable {C : Cx} {lo : List (Option PV)} {st : List Cell} {a b c : PV} {name : Str}
/-- run_late's body up to the raise -/
theorem late_body_raises {P : Pg} {A : Around} {L : Addr} {s : Shared} {ρ : List Addr} {F : Frz} (H : ExcG P) (h0 : rOf name "$strobe" = none) (h1 : rOf name "$monitor" = none) {E : Value → Shared → Prop} {Q : Flow → Shared → Prop}
    (S : Sim (CR P A L) [some a, some (.str name), some b, some c, none] st ρ F s.heap)
    (h : ∀ h' tk ρ' F' e t d es n vK vA vD, h'.get? e = some (excO t (some d)) → h'.get? d = some (dictOf es n) → W.getL "kind" es = some (some vK) → W.getL "at" es = some (some vA) → W.getL "detail" es = some (some vD) → Rep ρ' F' vK (.str "unknown_task") → Rep ρ' F' vA (.int (-1)) → Rep ρ' F' vD (.str name) →
      Sim (CR P A L) [some a, some (.str name), some b, some c, some .none] st ρ' F' h' → ρ <+: ρ' → FLe F F' → e ∉ ρ' → F' e = none → d ∉ ρ' → F' d = none → e ≠ L → d ≠ L → E (.ref e) (Rest s h' tk)) :
    wpAny (model P.prog P.w) (A.deeper (callEnv fd_run_late L 669)) (execs (bodyOf 100) (callEnv fd_run_late L 669)) Q E s := by
  have ev : ∀ (z : Option PV) (stem : Str) (p1 p2 p3 pos : Pos) (kk : Nat), stem.length ≤ 1000 → rOf name stem = none → Ev (CR P A L) [some a, some (.str name), some b, some c, z] st (.Call (.Name "shown_radix" p1) [.Name "name" p2, .Constant (.str stem) kk p3] [] pos) .none st := by
    intro z stem p1 p2 p3 pos kk hl hr
    have := ev_call (C := CR P A L) (lo := [some a, some (.str name), some b, some c, z]) (st := st) (pos := pos) (k := 21) (lv := 1) (ev_glob (x := "shown_radix") (pos := p1) 0 21) (evs_cons (ev_name (x := "name") (pos := p2) 1) (evs_cons (ev_str (x := stem) (k := kk) (pos := p3)) evs_nil)) (radix_cl (lv := 0) hl) (by show 1 ≤ 11; decide) rfl
    rw [hr] at this; exact this
  have tst : ∀ (p1 p2 pos : Pos) (kk : Nat), Tst (CR P A L) [some a, some (.str name), some b, some c, some .none] st (.Compare (.Name "radix" p1) [.Is] [.Constant .none kk p2] pos) true st :=
    fun p1 p2 pos kk => (tst_cmp (ev_name 4) ev_none (c_isnone (a := .none) (by intro v h; cases h))).cast rfl
  refine wpAny_execs_cons (wpAny_Assign_Name (wpAny_noE ((ev none "$strobe" _ _ _ _ _ (by exact Nat.le_of_ble_eq_true rfl) h0).run s ρ F S _ fun v1 g1 t1 ρ1 F1 r1 S1 p1 f1 => ?_)) rfl)
  refine Sim.storeName (C := CR P A L) (s := Rest s g1 t1) S1 (i := 4) (x := "radix") rfl r1 fun g2 t2 S2 => ?_
  show wpAny _ _ (execs _ _) _ _ _
  refine wpAny_execs_cons (wpAny_If (wpAny_noE ((tst _ _ _ _).run (Rest (Rest s g1 t1) g2 t2) ρ1 F1 S2 _ fun g3 t3 ρ3 F3 S3 p3 f3 => ?_)))
  show wpAny _ _ (execs _ _) _ _ _
  refine wpAny_execs_cons (wpAny_Assign_Name (wpAny_noE ((ev (some .none) "$monitor" _ _ _ _ _ (by exact Nat.le_of_ble_eq_true rfl) h1).run _ ρ3 F3 S3 _ fun v4 g4 t4 ρ4 F4 r4 S4 p4 f4 => ?_)) rfl)
  refine Sim.storeName (C := CR P A L) (s := Rest s g4 t4) S4 (i := 4) (x := "radix") rfl r4 fun g5 t5 S5 => ?_
  show wpAny _ _ (execs _ _) _ _ _
  refine wpAny_execs_nil ?_
  show wpAny _ _ (execs _ _) _ _ _
  refine wpAny_execs_cons (wpAny_If (wpAny_noE ((tst _ _ _ _).run (Rest s g5 t5) ρ4 F4 S5 _ fun g6 t6 ρ6 F6 S6 p6 f6 => ?_)))
  show wpAny _ _ (execs _ _) _ _ _
  refine wpAny_execs_cons (raise_de (s := Rest s g6 t6) S6 H rfl (by show 3 ≤ 11; decide) (ev_glob 1 38) (evs_cons ev_str (evs_cons (ev_neg ev_int) (evs_cons (ev_name 1) evs_nil))) fun h' tk ρ' F' e t d es n vK vA vD w1 w2 w3 w4 w5 w6 w7 w8 w9 w10 w11 w12 w13 w14 w15 w16 w17 => ?_)
  exact h h' tk ρ' F' e t d es n vK vA vD w1 w2 w3 w4 w5 w6 w7 w8 w9 ((((p1.trans p3).trans p4).trans p6).trans w10) ((((f1.trans f3).trans f4).trans f6).trans w11) w12 w13 w14 w15 w16 w17
end
end Mine
end
section
open PySem PySem.W PySem.Calls PyProof.Rows PySem.Builtin.Str
set_option Elab.async false
set_option autoImplicit false
set_option linter.all false
set_option maxRecDepth 100000
set_option maxHeartbeats 1000000
namespace Mine
/-- the exception in flight, behind run_late's frame -/
structure Fly (P : Pg) (st : List Cell) (ρ : List Addr) (F : Frz) (env1 : Env) (L1 : Addr) (o1 : Obj) (name : Str) (base h : Heap) (e d : Addr) (es : List DictEntry) (n : Nat) : Prop where
  sim : SimS P st ρ F h
  loc : ∃ sl, h.get? L1 = some { o1 with slots := sl }
  fl : ∃ mk, Fl base h [env1] e (.ref 45) (some d) mk
  dict : base.get? d = some (dictOf es n)
  kind : ∃ t, W.getL "kind" es = some (some (.str "unknown_task" t))
  at_ : ∃ t, W.getL "at" es = some (some (.int (-1) t))
  det : ∃ t, W.getL "detail" es = some (some (.str name t))
  known : ∀ b o, h.get? b = some o → (b ∈ ρ ∨ (F b).isSome = true) → base.get? b = some o
  en : e ∉ ρ
  ef : F e = none
  lf : F L1 = none
  ln : L1 ∉ ρ
  dn : d ∉ ρ
  df : F d = none
theorem Fly.step {P : Pg} {st : List Cell} {ρ : List Addr} {F : Frz} {env1 : Env} {L1 : Addr} {o1 : Obj} {name : Str} {base h h' : Heap} {e d : Addr} {es : List DictEntry} {n : Nat} (x : Fly P st ρ F env1 L1 o1 name base h e d es n) (hf : ∃ mk, Fl base h' [env1] e (.ref 45) (some d) mk) (ho1 : ∀ vs, o1.data ≠ .fields vs) (u : h.UpToSlots h') : Fly P st ρ F env1 L1 o1 name base h' e d es n := by
  obtain ⟨mk, hf⟩ := hf
  have keep : ∀ b o, h.get? b = some o → (b ∈ ρ ∨ (F b).isSome = true) → h'.get? b = some o := fun b o q z => hf.stays _ _ (x.known b o q z)
  obtain ⟨sl, hl⟩ := x.loc
  obtain ⟨sl2, hl2⟩ := u _ _ hl ho1
  refine ⟨x.sim.keep keep, ⟨sl2, hl2⟩, ⟨mk, hf⟩, x.dict, x.kind, x.at_, x.det, fun b o q z => ?_, x.en, x.ef, x.lf, x.ln, x.dn, x.df⟩
  have : ∃ o', h.get? b = some o' := by
    rcases z with z | z
    · exact x.sim.live z
    · obtain ⟨o', e'⟩ := Option.isSome_iff_exists.mp z; exact ⟨o', x.sim.fin _ _ e'⟩
  obtain ⟨o', e'⟩ := this
  have := keep b o' e' z
  rw [q] at this; cases this
  exact x.known b o e' z
theorem late_raises {P : Pg} {A : Around} {st : List Cell} {env1 : Env} {L1 : Addr} {o1 : Obj} {s : Shared} {ρ : List Addr} {F : Frz} {rs : List Value} {a b c : PV} {name : Str} (G : Gd P tabs) (H : ExcG P) (hfr : A.frames = some [env1]) (hA : A.handled = none) (hro : A.depth + 12 < recursionLimit) (hu : A.units + 240 < cLine)
    (h0 : rOf name "$strobe" = none) (h1 : rOf name "$monitor" = none) (S : SimS P st ρ F s.heap) (hr : Reps ρ F rs [a, .str name, b, c]) (hk1 : env1.scope.kind ≠ .module) (hf1 : env1.frame = some L1) (hL1F : F L1 = some o1) (ho1 : ∀ vs, o1.data ≠ .fields vs) (hnd : NotData o1) (hg1 : P.h0.get? L1 = none) (R : Result → Shared → Prop)
    (hR : ∀ h' tk ρ' F' base e d es n, Fly P st ρ' (delF F' L1) env1 L1 o1 name base h' e d es n → Fl base h' [env1] e (.ref 45) (some d) .none → ρ <+: ρ' → FLe F F' → R (.error (.ref e)) (Rest s h' tk)) :
    codeAny (model P.prog P.w) A (.call (.ref 669) ⟨rs, []⟩) R s := by
  refine code_raw ok_run_late (k := 27) (lv := 11) rfl (vs := [a, .str name, b, c]) rfl A s ρ F rs G hA hro hu S hr R fun L g1 t1 hLn S1 => ?_
  refine late_body_raises (s := Rest s g1 t1) H h0 h1 S1 fun h4 tk4 ρ4 F4 e t d es n vK vA vD w1 w2 w3 w4 w5 w6 w7 w8 S4 w10 w11 w12 w13 w14 w15 w16 w17 => ?_
  have hL14 : F4 L1 = some o1 := w11 _ _ hL1F
  have hL1h : h4.get? L1 = some o1 := S4.s.fin _ _ hL14
  have hLL : F4 L = none := S4.L1
  have hLρ : L ∉ ρ4 := S4.L2
  have hLne : L ≠ L1 := fun q => by rw [q, hL14] at hLL; cases hLL
  have heL1 : e ≠ L1 := fun q => by rw [q, hL14] at w13; cases w13
  have hdL1 : d ≠ L1 := fun q => by rw [q, hL14] at w15; cases w15
  have hde : d ≠ e := fun q => by rw [q, w1] at w2; cases w2
  obtain ⟨m, ⟨oL, esL, epL, eL, dL, kL⟩, _⟩ := S4.ns
  have eL : h4.get? L = some oL := eL
  have hb : ∀ x o, h4.get? x = some o → x ≠ L1 → x ≠ L → x ≠ e → (hideAll h4 [L1, L, e]).get? x = some o := fun x o q z1 z2 z3 => hideAll_get _ q (by simp [z1, z2, z3])
  have fr : h4.FunFrames (hideAll h4 [L1, L, e]) [callEnv fd_run_late L 669, env1] :=
    ⟨(by show fd_run_late.scope.kind ≠ .module; decide), ⟨L, oL, rfl, hideAll_none _ (by simp), eL, fun vs q => by rw [dL] at q; cases q⟩, hk1, ⟨L1, o1, hf1, hideAll_none _ (by simp), hL1h, ho1⟩, trivial⟩
  have hff : (A.deeper (callEnv fd_run_late L 669)).frames = some (callEnv fd_run_late L 669 :: [env1]) := by
    show A.frames.map _ = _
    rw [hfr]; rfl
  unfold leaving
  refine wpAny_bind (fl_first (s := Rest s h4 tk4) (base := hideAll h4 [L1, L, e]) hff fr rfl w1 (fun b o q => of_hideAll _ q) (hideAll_none _ (by simp)) rfl rfl fun h5 F5 U5 => ?_)
  refine fl_flight (s := Rest s h5 tk4) F5 fun h6 F6 U6 => ?_
  have F6' : Fl (hideAll h4 [L1, L, e]) h6 [env1] e (.ref 45) (some d) .none := ⟨F6.stays, F6.frames.2.2, F6.new, F6.ex⟩
  refine hR h6 tk4 ρ4 F4 (hideAll h4 [L1, L, e]) e d es n ?_ F6' w10 w11
  have St := S4.s.thaw hL14 hnd hg1
  have known : ∀ b o, h4.get? b = some o → (b ∈ ρ4 ∨ (delF F4 L1 b).isSome = true) → (hideAll h4 [L1, L, e]).get? b = some o := by
    intro b o q z
    have hd0 : delF F4 L1 L1 = none := by unfold delF; rw [if_pos rfl]
    refine hb b o q (fun y => ?_) (fun y => ?_) (fun y => ?_)
    · subst y
      rcases z with z | z
      · have := S4.s.off _ z; rw [hL14] at this; cases this
      · rw [hd0] at z; cases z
    · subst y
      rcases z with z | z
      · exact hLρ z
      · unfold delF at z; rw [if_neg hLne, hLL] at z; cases z
    · subst y
      rcases z with z | z
      · exact w12 z
      · unfold delF at z; rw [if_neg heL1, w13] at z; cases z
  obtain ⟨tK, rfl⟩ := w6.toStr
  obtain ⟨tA, rfl⟩ := w7.toInt
  obtain ⟨tD, rfl⟩ := w8.toStr
  have ef : delF F4 L1 e = none := by unfold delF; rw [if_neg heL1]; exact w13
  have lf : delF F4 L1 L1 = none := by unfold delF; rw [if_pos rfl]
  have df : delF F4 L1 d = none := by unfold delF; rw [if_neg hdL1]; exact w15
  have ln : L1 ∉ ρ4 := fun q => by have := S4.s.off _ q; rw [hL14] at this; cases this
  obtain ⟨sl, hsl⟩ := (U5.trans U6) L1 o1 hL1h ho1
  have keep : ∀ b o, h4.get? b = some o → (b ∈ ρ4 ∨ (delF F4 L1 b).isSome = true) → h6.get? b = some o := fun b o q z => F6'.stays _ _ (known b o q z)
  refine ⟨St.keep keep, ⟨sl, hsl⟩, ⟨_, F6'⟩, hb d _ w2 hdL1 w17 hde, ⟨_, w3⟩, ⟨_, w4⟩, ⟨_, w5⟩, fun b o q z => ?_, w12, ef, lf, ln, w14, df⟩
  have : ∃ o', h4.get? b = some o' := by
    rcases z with z | z
    · exact St.live z
    · obtain ⟨o', e'⟩ := Option.isSome_iff_exists.mp z; exact ⟨o', St.fin _ _ e'⟩
  obtain ⟨o', e'⟩ := this
  have := keep b o' e' z
  rw [q] at this; cases this
  exact known b o e' z
end Mine
end
section
open PySem PySem.W PySem.Calls PyProof.Rows PySem.Builtin.Str
set_option Elab.async false
set_option autoImplicit false
set_option linter.all false
set_option maxRecDepth 100000
set_option maxHeartbeats 1000000
namespace Mine
/-- except DesignError as n: taken -/
theorem handle_de {prog : Program} {w : World} {A : Around} {E : Value → Shared → Prop} {s : Shared} {env : Env} {e : Addr} {bs : List Value} {t : Expr} {n : Str} {b₀ : Stmt} {suite : List Stmt} {pos : Pos} {rest : List ExceptHandler} {Q : Flow → Shared → Prop}
    (h : wpAny (model prog w) (A.mark (some (.ref e))) (eval t env) (fun c s₁ => c = .ref 45 ∧ IsDE s₁.heap bs ∧ (∃ oe, s₁.heap.get? e = some oe ∧ oe.cls = .ref 45) ∧
      wpAny (model prog w) (A.mark (some (.ref e))) (setFlight (.ref e) none) (fun _ s₂ =>
          wpAny (model prog w) (A.mark (some (.ref e))) (storeName env n (.ref e)) (fun _ s₃ =>
            wpAny (model prog w) (A.mark (some (.ref e))) (execs (b₀ :: suite) env)
              (fun f s₄ => wpAny (model prog w) A (do bindName env n .none; unbindBehindTheSuite env n pos) (fun _ s₅ => Q f s₅) E s₄)
              (AsSuiteRaised (model prog w) (A.mark (some (.ref e))) env n pos (notedBy (model prog w) (A.mark (some (.ref e))) env (cameBackBy (model prog w) A env E))) s₃) (notedBy (model prog w) (A.mark (some (.ref e))) env (cameBackBy (model prog w) A env E)) s₂) (notedBy (model prog w) (A.mark (some (.ref e))) env (cameBackBy (model prog w) A env E)) s₁) (notedBy (model prog w) (A.mark (some (.ref e))) env (cameBackBy (model prog w) A env E)) s) :
    wpAny (model prog w) A (handleBy (.ref e) env (.ExceptHandler (some t) (some n) (b₀ :: suite) pos :: rest)) Q E s := by
  refine wpAny_handleBy_cons (codeAny_handlers_test (wpAny_mono h (fun c s₁ h₁ => ?_) fun _ _ y => y)) (by intro q; cases q)
  obtain ⟨rfl, ⟨nm, q, N, hdct, sn, sub, ab, col, dd, k0, k1, k2, k3, k5, hC⟩, ⟨oe, he, hcls⟩, hk⟩ := h₁
  obtain ⟨hh, g, d, tk, os⟩ := s₁
  exact wpAny_excMatches_sub_self hC he hcls (by decide +kernel) (codeAny_handlers_suite_as hk)
theorem glob_raw {C : Cx} {lo : List (Option PV)} {st : List Cell} {A : Around} {E : Value → Shared → Prop} {s : Shared} {ρ : List Addr} {F : Frz} {x : Str} {pos : Pos} {v : Value} {Q : Value → Shared → Prop} (S : Sim C lo st ρ F s.heap) (i j : Nat) (hx : C.gkeys[i]? = some x) (hv : C.T.glob[j]? = some (x, v)) (hd : (x == ("__debug__" : Str)) = false)
    (hQ : Q v s) : wpAny (model C.P.prog C.P.w) A (eval (.Name x pos) C.env) Q E s := by
  obtain ⟨mg, hg, hv', _⟩ := S.good.gd.glob
  refine Name_function_global S.good.kind (S.good.globs x (List.mem_of_getElem? hx)) (loadGlobal_global (mg := mg) ?_ (hv' _ (List.mem_of_getElem? hv)) hQ) hd
  rw [S.good.glb]; exact hg.keeps S.grd
theorem loc_raw {C : Cx} {lo : List (Option PV)} {st : List Cell} {A : Around} {E : Value → Shared → Prop} {s : Shared} {ρ : List Addr} {F : Frz} {x : Str} {pos : Pos} {p : PV} {Q : Value → Shared → Prop} (S : Sim C lo st ρ F s.heap) (i : Nat) (hx : C.keys[i]? = some x) (hp : lo[i]? = some (some p)) (hd : (x == ("__debug__" : Str)) = false)
    (hQ : ∀ v, Rep ρ F v p → Q v s) : wpAny (model C.P.prog C.P.w) A (eval (.Name x pos) C.env) Q E s := by
  obtain ⟨m, v, hn, e, q⟩ := S.load hx hp
  exact wpAny_Name (wpAny_loadName_local S.good.kind (S.good.locs x (keys_lt hx)) hn e (hQ v q)) hd
/-- an attribute of the exception, under any activation -/
theorem att_raw {C : Cx} {lo : List (Option PV)} {st : List Cell} {A : Around} {E : Value → Shared → Prop} {s : Shared} {ρ : List Addr} {F : Frz} {x name : Str} {pos p2 : Pos} {e d : Addr} {oe : Obj} {es : List DictEntry} {n : Nat} {v : Value} {Q : Value → Shared → Prop} (H : ExcG C.P) (S : Sim C lo st ρ F s.heap) (i : Nat) (hx : C.keys[i]? = some x) (hp : lo[i]? = some (some (.val (.ref e)))) (hd : (x == ("__debug__" : Str)) = false)
    (he : F e = some oe) (hc : oe.cls = .ref 45) (hdd : oe.dict = some d) (hnc : notCls oe = true) (hF : F d = some (dictOf es n)) (hn : name ∈ (["kind", "at", "detail"] : List Str)) (hv : W.getL name es = some (some v)) (hh : handedIn v = true)
    (hQ : Q v { s with toks := s.toks + 1 })
    (hev : eval (.Attribute (.Name x p2) name pos) C.env = (do
      let v ← eval (.Name x p2) C.env
      standAt pos.atName
      let r ← holding [v] (getAttr v name true)
      letTemporaryGo (.Name x p2) v r
      pure r)) : wpAny (model C.P.prog C.P.w) A (eval (.Attribute (.Name x p2) name pos) C.env) Q E s := by
  obtain ⟨K, bs, X, ck, hDE, hkeep⟩ := H
  refine Attribute_any_ (loc_raw S i hx hp hd fun u ru => ?_) hev
  cases ru
  have I : InstAt s.heap e oe 45 (some (dictOf es n)) := ⟨S.s.fin _ _ he, hc, hnc, by rw [hdd]; exact S.s.fin _ _ hF⟩
  have XX : K.In s.heap := fun a o q => S.grd _ _ (X a o q)
  have hm : mroIn K 45 (.type "BaseException") = some true := by
    obtain ⟨cd, hcd, hmr⟩ := Option.map_eq_some_iff.mp ck.mro
    unfold mroIn; rw [hcd, Option.bind_some, hmr]; decide +kernel
  have hasd : hasDictIn K 45 = true := by
    obtain ⟨cd, hcd, hcd2⟩ := Option.map_eq_some_iff.mp ck.hasd
    unfold hasDictIn; rw [hcd]; exact hcd2
  exact get_exc XX I ck.geta ck.gatt hm (findObj_own hasd (ck.attr name hn) rfl hv) hh hQ
noncomputable def handB : List Stmt := match (bodyOf 111)[14]? with
  | some (Stmt.Try _ (ExceptHandler.ExceptHandler _ _ b _ :: _) _ _ _) => b
  | _ => []
section
variable {P : Pg} {A A' : Around} {L : Addr} {st : List Cell} {t x11 x12 x13 x14 x15 x16 x17 x18 x19 x20 x21 x22 : Option PV} {name : Str}
theorem suite_raw {E : Value → Shared → Prop} {s : Shared} {ρ : List Addr} {F : Frz} {e d : Addr} {oe : Obj} {es : List DictEntry} {n : Nat} {tK tA tD : Tok} {Q : Flow → Shared → Prop} (H : ExcG P) (hu : A'.units + 20 < cLine) (S : Sim (CL P A L) (LO t x11 x12 x13 x14 x15 x16 x17 x18 x19 (some (.str name)) x21 (some (.val (.ref e)))) st ρ F s.heap)
    (he : F e = some oe) (hc : oe.cls = .ref 45) (hdd : oe.dict = some d) (hnc : notCls oe = true) (hF : F d = some (dictOf es n)) (hk : W.getL "kind" es = some (some (.str "unknown_task" tK))) (ha : W.getL "at" es = some (some (.int (-1) tA))) (hdt : W.getL "detail" es = some (some (.str name tD)))
    (hQ : ∀ h' tk F', Sim (CL P A L) (LO t x11 x12 x13 x14 x15 x16 x17 x18 x19 (some (.str name)) (some (.bool true)) (some (.val (.ref e)))) st ρ F' h' → FLe F F' → Q .next (Rest s h' tk)) :
    wpAny (model P.prog P.w) A' (execs handB (CL P A L).env) Q E s := by
  conv => arg 3; arg 1; whnf
  refine wpAny_execs_cons (wpAny_Assign_Name ?_)
  refine wpAny_Compare1 ?_ (by with_unfolding_all rfl)
  refine wpAny_Tuple ?_
  refine args_cons ?_ rfl
  refine att_raw (C := CL P A L) H S 22 rfl rfl (by decide) he hc hdd hnc hF (by simp) hk rfl ?_ (by with_unfolding_all rfl)
  refine args_cons ?_ rfl
  refine att_raw (C := CL P A L) (s := { s with toks := s.toks + 1 }) H S 22 rfl rfl (by decide) he hc hdd hnc hF (by simp) ha rfl ?_ (by with_unfolding_all rfl)
  refine args_cons ?_ rfl
  refine att_raw (C := CL P A L) (s := { s with toks := s.toks + 1 + 1 }) H S 22 rfl rfl (by decide) he hc hdd hnc hF (by simp) hdt rfl ?_ (by with_unfolding_all rfl)
  refine args_nil ⟨by rw [sizeLine_eq]; show 3 ≤ _; omega, ?_⟩
  generalize hl1 : [Value.str "unknown_task" tK, Value.int (-1) tA, Value.str name tD] = l1
  have R1 : ∀ F', Reps ρ F' l1 [.str "unknown_task", .int (-1), .str name] := fun F' => hl1 ▸ .cons (.str _ _) (.cons (.int _ _) (.cons (.str _ _) .nil))
  have fr1 := S.fresh (get_size (h := s.heap))
  have le1 := addF_le (o := tupObj l1) fr1.1
  have S1 := S.addFrozen (o := tupObj l1) get_size (Heap.get?_push_size s.heap rfl) (fun b q e => Heap.get?_push_of_some _ e)
  refine wpAny_Tuple ?_
  refine args_cons ?_ rfl
  refine wpAny_Constant_str ?_
  refine args_cons ?_ rfl
  refine wpAny_UnaryOp (wpAny_Constant_int ?_)
  refine PyProof.Rows.neg_int ?_
  refine args_cons ?_ rfl
  refine loc_raw (C := CL P A L) (s := { s with heap := s.heap.push (tupObj l1), toks := _ }) S1 20 rfl rfl (by decide) fun vD rD => ?_
  refine args_nil ⟨by rw [sizeLine_eq]; show 3 ≤ _; omega, ?_⟩
  obtain ⟨tD2, rfl⟩ := rD.toStr
  have h1eq : ∀ b o, s.heap.get? b = some o → (s.heap.push (tupObj l1)).get? b = some o := fun b o q => Heap.get?_push_of_some _ q
  generalize hH1 : s.heap.push (tupObj l1) = H1 at S1 h1eq
  generalize hl2 : [Value.str "unknown_task" _, Value.int (-1) _, Value.str name tD2] = l2
  have R2 : ∀ F', Reps ρ F' l2 [.str "unknown_task", .int (-1), .str name] := fun F' => hl2 ▸ .cons (.str _ _) (.cons (.int _ _) (.cons (.str _ _) .nil))
  have fr2 := S1.fresh (get_size (h := H1))
  have le2 := addF_le (o := tupObj l2) fr2.1
  have S2 := S1.addFrozen (o := tupObj l2) get_size (Heap.get?_push_size H1 rfl) (fun b q e => Heap.get?_push_of_some _ e)
  have T1 : Rep ρ (addF (addF F s.heap.objs.size (tupObj l1)) H1.objs.size (tupObj l2)) (.ref s.heap.objs.size) (.tup [.str "unknown_task", .int (-1), .str name]) := .tup (le2 _ _ addF_self) (R1 _)
  have T2 : Rep ρ (addF (addF F s.heap.objs.size (tupObj l1)) H1.objs.size (tupObj l2)) (.ref H1.objs.size) (.tup [.str "unknown_task", .int (-1), .str name]) := .tup addF_self (R2 _)
  refine wpAny_noE (s_eqt (P := P) (d := 1) (st := st) (by intro p hp; simp only [List.mem_cons, List.not_mem_nil, or_false] at hp; rcases hp with rfl | rfl | rfl <;> trivial) (by decide) A' { s with heap := H1.push (tupObj l2), toks := _ } ρ _ _ _ hu S2.s T1 T2 _ ?_)
  refine Sim.storeName (C := CL P A L) (s := { s with heap := H1.push (tupObj l2), toks := _ }) S2 (i := 21) (x := "refused") rfl (.bool true) fun h' tk S3 => ?_
  show wpAny _ _ (execs _ _) _ _ _
  refine wpAny_execs_nil ?_
  exact hQ h' tk _ S3 (le1.trans le2)
end
end Mine
end
section
open PySem PySem.W PySem.Calls PyProof.Rows PySem.Builtin.Str
set_option Elab.async false
set_option autoImplicit false
set_option linter.all false
set_option maxRecDepth 100000
set_option maxHeartbeats 2000000
namespace Mine
theorem try_ok {P : Pg} (H : ExcG P) : TryOK P := by
  intro A hA L st K t x11 x12 x13 x14 x15 x16 x17 x18 x19 x21 x22 name h0 h1 hk
  have hk1 := hk [.list []] none
  conv => arg 4; whnf
  refine ex_cons fun s ρ F S Q hQ => ?_
  have hfr : (CL P A L).A.frames = some [(CL P A L).env] := by
    show A.frames.map _ = _
    rw [hA]; rfl
  refine wpAny_Try_except ?_
  refine wpAny_execs_cons (wpAny_Expr ?_ rfl rfl)
  refine Call_ (wpAny_noE ((ev_glob (C := CL P A L) (x := "run_late") (st := st) 8 27).run s ρ F S _ fun v g1 t1 ρ1 F1 r1 S1 p1 f1 => ?_)) rfl
  cases r1.toVal
  obtain ⟨o, ho, hd, _⟩ := S.good.gd.fns _ (List.mem_of_getElem? (show tabs.fns[27]? = some (669, fd_run_late) from rfl))
  refine callWith_def (o := o) (fd := fd_run_late) hd (wpAny_noE ((evs_cons (C := CL P A L) (ev_name 4) (evs_cons (ev_name 20) (evs_cons (ev_list evs_nil (by decide)) (evs_cons (ev_name 5) evs_nil)))).run _ (Rest s g1 t1) ρ1 F1 S1 _ fun vs h2 t2 ρ2 F2 r2 S2 p2 f2 => ⟨S2.grd _ _ ho, ?_⟩)) rfl
  have bk := S2.ns
  obtain ⟨m, ⟨oL, esL, epL, eL, dL, kL⟩, hm⟩ := S2.ns
  have eL : h2.get? L = some oL := eL
  have nd : NotData oL := ⟨fun vs e => (by rw [e] at dL; cases dL), fun C d e => (by rw [e] at dL; cases dL)⟩
  have ho1 : ∀ vs, oL.data ≠ .fields vs := fun vs q => by rw [dL] at q; cases q
  have hL1 : F2 L = none := S2.L1
  have hL2 : L ∉ ρ2 := S2.L2
  have le := addF_le (o := oL) hL1
  have hg1 : P.h0.get? L = none := S2.h0_none hL1
  have SF : SimS P (st ++ [.list []]) ρ2 (addF F2 L oL) h2 := by
    refine ⟨fun b q e => ?_, fun b q e => le b q (S2.s.gnd b q e), S2.s.nod, fun b hb => ?_, S2.s.len, S2.s.tb, fun i c e => ?_⟩
    · unfold addF at e; split at e
      · rename_i z; subst z; cases e; exact eL
      · exact S2.s.fin b q e
    · unfold addF; split
      · rename_i z; subst z; exact absurd hb hL2
      · exact S2.s.off b hb
    · obtain ⟨b, e1, k⟩ := S2.s.cells i c e
      exact ⟨b, e1, k.mono (List.prefix_refl _) le fun o q => q⟩
  have hun := S.good.units
  have hro := S.good.room
  have hun' : (CL P A L).A.units + 20 * 12 < cLine := hun
  have hro' : (CL P A L).A.depth + 12 < recursionLimit := hro
  refine wpAny_call (late_raises (s := Rest (Rest s g1 t1) h2 t2) (a := .loc 17) (b := .loc st.length) (c := .loc 46) S.good.gd H hfr S.good.hd hro' (by omega) h0 h1 SF (r2.mono (List.prefix_refl _) le) (by show fd_law.scope.kind ≠ .module; decide) rfl addF_self ho1 nd hg1 _ fun h' tk ρ' F' base e d es n fly F6 p f => ?_)
  show wpAny _ _ (noteFrame (.ref e) _) _ _ _
  refine fl_next (s := Rest s h' tk) hfr rfl F6 fun h7 F7 U7 => ?_
  refine fl_flight (s := Rest s h7 tk) F7 fun h8 F8 U8 => ?_
  have fly8 := (fly.step ⟨_, F7⟩ ho1 U7).step ⟨_, F8⟩ ho1 U8
  have fL : F' L = some oL := f _ _ addF_self
  have mkSim : ∀ h, Fly P (st ++ [.list []]) ρ' (delF F' L) (CL P A L).env L oL name base h e d es n → Sim (CL P A L) (LO t x11 x12 x13 x14 x15 x16 x17 x18 x19 (some (.str name)) x21 x22) (st ++ [.list []]) ρ' (delF F' L) h := by
    intro h fl
    obtain ⟨sl, hsl⟩ := fl.loc
    exact ⟨S2.good, fl.sim, fl.lf, fl.ln, S2.len, (fun q hq => let ⟨a, e1, e2⟩ := S2.cel q hq; ⟨a, e1, pre_get p e2⟩), m, ⟨_, esL, epL, hsl, dL, kL⟩, fun i x hx => ((hm i x hx).mono p (le.trans f)).thaw fL nd⟩
  obtain ⟨Kf, bs, X, ck, hDE, hkeep⟩ := id H
  have S8 := mkSim h8 fly8
  refine handle_de (bs := bs) ?_
  obtain ⟨oe, vse, Te, oTe, tse, he8, ⟨hcls8, hdct8⟩, hrest8⟩ := F8.ex
  refine glob_raw (C := CL P A L) (s := Rest s h8 tk) S8 9 38 rfl rfl (by decide) ⟨rfl, hDE.keeps S8.grd, ⟨oe, he8, hcls8⟩, ?_⟩
  refine fl_flight (s := Rest s h8 tk) F8 fun h9 F9 U9 => ?_
  have fly9 := fly8.step ⟨_, F9⟩ ho1 U9
  have S9 := mkSim h9 fly9
  obtain ⟨o9, vs9, T9, oT9, ts9, he9, ⟨hcls9, hdct9⟩, hdat9, hrest9⟩ := F9.ex
  have he9 : h9.get? e = some o9 := he9
  obtain ⟨sl9, hl9⟩ := fly9.loc
  have heL : e ≠ L := fun q => by
    rw [q, hl9] at he9; cases he9
    exact ho1 _ hdat9
  have hdb := fly9.dict
  have hde : d ≠ e := fun q => by rw [q, F9.new] at hdb; cases hdb
  have hdL : d ≠ L := fun q => by
    obtain ⟨_, ⟨L', oo, e1, e2, _⟩, _⟩ := F9.frames
    have : L = L' := Option.some.inj e1
    rw [q, this, e2] at hdb; cases hdb
  have hd9 : h9.get? d = some (dictOf es n) := F9.stays _ _ hdb
  have S10 := S9.freeze (I := e) (o := o9) fly9.ef fly9.en heL he9
  have le10 := addF_le (o := o9) fly9.ef
  have dF10 : addF (delF F' L) e o9 d = none := by unfold addF; rw [if_neg hde]; exact fly9.df
  have S11 := S10.freeze (I := d) (o := dictOf es n) dF10 fly9.dn hdL hd9
  have le11 := addF_le (o := dictOf es n) dF10
  refine Sim.storeName (C := CL P A L) (s := Rest s h9 tk) S11 (i := 22) (x := "error") (a := .val (.ref e)) rfl (.val _) fun h12 t12 S12 => ?_
  obtain ⟨tK, hgK⟩ := fly9.kind
  obtain ⟨tA, hgA⟩ := fly9.at_
  obtain ⟨tD, hgD⟩ := fly9.det
  have hnc : notCls o9 = true := by
    unfold notCls; rw [hdat9]
  refine suite_raw (s := Rest s h12 t12) (e := e) (d := d) (oe := o9) (es := es) (n := n) (name := name) (A' := (CL P A L).A.mark (some (.ref e))) H (by show (CL P A L).A.units + 20 < cLine; omega) S12 (le11 _ _ addF_self) hcls9 hdct9 hnc addF_self hgK hgA hgD fun h13 t13 F13 S13 le13 => ?_
  refine wpAny_bind (wpAny_bindName ?_)
  refine Sim.storeName (C := CL P A L) (s := Rest s h13 t13) S13 (i := 22) (x := "error") (a := .none) rfl .none fun h14 t14 S14 => ?_
  unfold unbindBehindTheSuite
  refine wpAny_onRaise ?_
  obtain ⟨m14, hn14, hm14⟩ := S14.ns
  obtain ⟨v14, hv14, _⟩ := hm14 22 "error" rfl
  refine wpAny_unbindName_local (s := Rest s h14 t14) rfl hn14 hv14 rfl fun h15 u hn15 hs15 => ?_
  have S15 : Sim (CL P A L) (LO t x11 x12 x13 x14 x15 x16 x17 x18 x19 (some (.str name)) (some (.bool true)) none) (st ++ [.list []]) ρ' F13 h15 := by
    have eLO : LO t x11 x12 x13 x14 x15 x16 x17 x18 x19 (some (.str name)) (some (.bool true)) none = ((LO t x11 x12 x13 x14 x15 x16 x17 x18 x19 (some (.str name)) (some (.bool true)) (some (.val (.ref e)))).set 22 (some .none)).set 22 none := rfl
    rw [eLO]
    refine ⟨S14.good, S14.s.keep fun b o q z => (hs15.2 b fun y => ?_).trans q, S14.L1, S14.L2, (by rw [List.length_set]; exact S14.len), S14.cel, _, hn15, fun i x hx => ?_⟩
    · subst y
      rcases z with z | z
      · exact S14.L2 z
      · have z1 : F13 b = none := S14.L1
        rw [z1] at z; cases z
    · by_cases hi : i = 22
      · subst hi
        rw [List.getElem?_set_self (by rw [S14.len]; exact lt_of_get hx)]; trivial
      · have hne : x ≠ "error" := fun q => hi ((List.getElem?_inj (lt_of_get hx) S14.good.nd).mp (hx.trans (q ▸ rfl)))
        rw [List.getElem?_set_ne (Ne.symm hi)]
        show LocAt ρ' F13 (if x = "error" then u else m14 x) _
        rw [if_neg hne]
        exact hm14 i x hx
  have fF : FLe F F13 := ((f1.trans f2).trans (delF_le hL1 (le.trans f))).trans (((le10.trans le11)).trans le13)
  exact hQ (.next _ _) hk1 _ h15 _ ρ' F13 ⟨rfl, S15⟩ ((p1.trans p2).trans p) fF
end Mine
end
section
open PySem PySem.W PySem.Calls PyProof.Rows PySem.Builtin.Str
set_option Elab.async false
set_option autoImplicit false
set_option linter.all false
set_option maxRecDepth 100000
set_option maxHeartbeats 1000000
namespace Mine
noncomputable def deIn (o : Obj) : Bool := match o.cls, o.data, o.slots.toList with
  | .type t, .cls c, [_, _, _, _, some (.builtin b), _] => t == "type" && b == "Exception.__new__" && c.mro == [.ref 45, .ref 32, .type "Exception", .type "BaseException", .type "object"] && !c.hasDel
  | _, _, _ => false
theorem deIn_of {h : Heap} {o : Obj} (ho : h.get? 45 = some o) (hd : deIn o = true) : ∃ bs, IsDE h bs := by
  obtain ⟨cls, dd, data, ⟨sl⟩⟩ := o
  unfold deIn at hd
  dsimp only at hd
  cases cls with
  | type t =>
    cases data with
    | cls c =>
      rcases sl with _ | ⟨k0, _ | ⟨k1, _ | ⟨k2, _ | ⟨k3, _ | ⟨k4, _ | ⟨k5, _ | ⟨k6, r⟩⟩⟩⟩⟩⟩⟩
      · cases hd
      · cases hd
      · cases hd
      · cases hd
      · cases hd
      · exact absurd hd (by cases k4 with
          | none => exact Bool.false_ne_true
          | some v => cases v <;> exact Bool.false_ne_true)
      · cases k4 with
        | none => cases hd
        | some v =>
          cases v with
          | builtin b =>
            simp only [Bool.and_eq_true, beq_iff_eq, Bool.not_eq_true'] at hd
            obtain ⟨⟨⟨rfl, rfl⟩, hm⟩, hdel⟩ := hd
            obtain ⟨nm, bs, mro, ns, q, hdct, sn, sub, ab, col, del⟩ := c
            dsimp only at hm hdel
            subst hm hdel
            exact ⟨bs, nm, q, ns, hdct, sn, sub, ab, col, dd, _, _, _, _, _, ho⟩
          | _ => cases hd
      · exact absurd hd (by cases k4 with
          | none => exact Bool.false_ne_true
          | some v => cases v <;> exact Bool.false_ne_true)
    | _ => cases hd
  | _ => cases hd
theorem exc_of {K : Frag} {h : Heap} {a : Addr} {so : Obj} {prog : Program} {w : World} (KX : K.In h) (hC : TabsAt [(734, 730)] h) (hs : h.get? a = some so) (hp : plainObj so = false) (as : List Addr) (c4 : as.all (plainAt K) = true) (c5 : ExcK2 (subK K as)) (c6 : (K.lookup 45).any (fun o => deIn o && plainObj o) = true) (c7 : keepIn (subK K as) (.ref 45) = true) :
    ExcG { prog := prog, w := w, h0 := hideAll h [730, a], ktab := 730 } := by
  have ht := (hC (734, 730) List.mem_cons_self).2
  cases q : K.lookup 45 with
  | none => rw [q] at c6; cases c6
  | some o =>
    rw [q] at c6
    have c6' : (deIn o && plainObj o) = true := c6
    rw [Bool.and_eq_true] at c6'
    obtain ⟨bs, hbs⟩ := deIn_of (keep0 ht hs hp (KX _ _ q) c6'.2) c6'.1
    refine ⟨subK K as, bs, fun x o e => ?_, c5, hbs, c7⟩
    obtain ⟨h1, h2⟩ := subK_look e
    have := List.all_eq_true.mp c4 x h1
    unfold plainAt at this
    rw [h2] at this
    exact keep0 ht hs hp (KX x o h2) this
end Mine
end
section
namespace Mine
/- The 670 names below are the names under which the library's head (k_head) would lay faster copies of
definitions while it proves hdT. Laid, they make the compiled file some 190 MB. A copy whose name stands
already is not laid, and the head goes on with the definitions themselves. No proof uses the names below. -/
theorem hdT.tw13054363712787031859 : True := trivial
theorem hdT.tw6069086958997180844 : True := trivial
theorem hdT.tw4012522088078816110 : True := trivial
theorem hdT.tw16948914098618018369 : True := trivial
theorem hdT.tw15120104660708964869 : True := trivial
theorem hdT.tw7108597360084366280 : True := trivial
theorem hdT.tw8224041156636738495 : True := trivial
theorem hdT.tw5619491481767085419 : True := trivial
theorem hdT.tw9966396331570240342 : True := trivial
theorem hdT.tw14477410685026519406 : True := trivial
theorem hdT.tw3412653575038442805 : True := trivial
theorem hdT.tw1710166738094517644 : True := trivial
theorem hdT.tw1102789012699053714 : True := trivial
theorem hdT.tw12279998229694318322 : True := trivial
theorem hdT.tw8749434859236362604 : True := trivial
theorem hdT.tw13338845783058869467 : True := trivial
theorem hdT.tw5604596863259938530 : True := trivial
theorem hdT.tw9084411662588796295 : True := trivial
theorem hdT.tw15715520579135356368 : True := trivial
theorem hdT.tw15460788182947458201 : True := trivial
theorem hdT.tw3340316414879853702 : True := trivial
theorem hdT.tw1005338743208741551 : True := trivial
theorem hdT.tw16539148576436122313 : True := trivial
theorem hdT.tw6955748858972044763 : True := trivial
theorem hdT.tw776152709372847384 : True := trivial
theorem hdT.tw1066543892732998623 : True := trivial
theorem hdT.tw15983779588726612320 : True := trivial
theorem hdT.tw16922730983264970715 : True := trivial
theorem hdT.tw822856507448853781 : True := trivial
theorem hdT.tw683934152577371975 : True := trivial
theorem hdT.tw3354442301435478463 : True := trivial
theorem hdT.tw9160942786681829764 : True := trivial
theorem hdT.tw7482193001858790077 : True := trivial
theorem hdT.tw17850443551450840944 : True := trivial
theorem hdT.tw8766941176648348281 : True := trivial
theorem hdT.tw17666093417056562162 : True := trivial
theorem hdT.tw13065430645502238488 : True := trivial
theorem hdT.tw13941434405423248975 : True := trivial
theorem hdT.tw5806034029871757836 : True := trivial
theorem hdT.tw1543731155930569881 : True := trivial
theorem hdT.tw15578045932945952825 : True := trivial
theorem hdT.tw6016340665346597148 : True := trivial
theorem hdT.tw6455760386348682736 : True := trivial
theorem hdT.tw8797873527435561917 : True := trivial
theorem hdT.tw2727673047806841075 : True := trivial
theorem hdT.tw8739099295787217745 : True := trivial
theorem hdT.tw7750204729614750717 : True := trivial
theorem hdT.tw7084950837047997198 : True := trivial
theorem hdT.tw15894074919283784595 : True := trivial
theorem hdT.tw6620875393786368385 : True := trivial
theorem hdT.tw12360972160261386290 : True := trivial
theorem hdT.tw10439521527477894234 : True := trivial
theorem hdT.tw13988915499686876603 : True := trivial
theorem hdT.tw2735428037448430824 : True := trivial
theorem hdT.tw1307998178567594954 : True := trivial
theorem hdT.tw14577063617963707951 : True := trivial
theorem hdT.tw446475844140859903 : True := trivial
theorem hdT.tw3130026600693219103 : True := trivial
theorem hdT.tw14851777919923771231 : True := trivial
theorem hdT.tw4160381695852730747 : True := trivial
theorem hdT.tw2132456725083282815 : True := trivial
theorem hdT.tw222358611838573069 : True := trivial
theorem hdT.tw10176395992278642552 : True := trivial
theorem hdT.tw2178699043757754280 : True := trivial
theorem hdT.tw14116893189291779112 : True := trivial
theorem hdT.tw9531525317723489367 : True := trivial
theorem hdT.tw617269760308790182 : True := trivial
theorem hdT.tw2436422211977766078 : True := trivial
theorem hdT.tw16214489315169158900 : True := trivial
theorem hdT.tw14739110467874880269 : True := trivial
theorem hdT.tw6841577446531214128 : True := trivial
theorem hdT.tw9100184902824156547 : True := trivial
theorem hdT.tw16514091972170015177 : True := trivial
theorem hdT.tw14823433085943519800 : True := trivial
theorem hdT.tw5502382909086503705 : True := trivial
theorem hdT.tw6735879728937818129 : True := trivial
theorem hdT.tw1066655907184155469 : True := trivial
theorem hdT.tw942146656244889080 : True := trivial
theorem hdT.tw938805452192909420 : True := trivial
theorem hdT.tw3075648315715463794 : True := trivial
theorem hdT.tw12097682857056489229 : True := trivial
theorem hdT.tw16660877896988103928 : True := trivial
theorem hdT.tw10637491067871093976 : True := trivial
theorem hdT.tw12097059370169897664 : True := trivial
theorem hdT.tw8586098045395995821 : True := trivial
theorem hdT.tw11286671869160983514 : True := trivial
theorem hdT.tw7790660797244695241 : True := trivial
theorem hdT.tw12367187599949045917 : True := trivial
theorem hdT.tw10759425804810152557 : True := trivial
theorem hdT.tw9451025747531858059 : True := trivial
theorem hdT.tw13907023301156516989 : True := trivial
theorem hdT.tw2332166447756793472 : True := trivial
theorem hdT.tw5259499215298897955 : True := trivial
theorem hdT.tw1368098252954153590 : True := trivial
theorem hdT.tw12807591335219599141 : True := trivial
theorem hdT.tw14550229436542405152 : True := trivial
theorem hdT.tw10468062072056533275 : True := trivial
theorem hdT.tw9881428037870011887 : True := trivial
theorem hdT.tw512989020808680059 : True := trivial
theorem hdT.tw14535055646236278548 : True := trivial
theorem hdT.tw9095357839185793764 : True := trivial
theorem hdT.tw2658370714684252078 : True := trivial
theorem hdT.tw4699266021141634843 : True := trivial
theorem hdT.tw2652420494882195381 : True := trivial
theorem hdT.tw10544611178586225868 : True := trivial
theorem hdT.tw17008556930567598020 : True := trivial
theorem hdT.tw6517722867670072411 : True := trivial
theorem hdT.tw4487434557544995915 : True := trivial
theorem hdT.tw7546123832575513691 : True := trivial
theorem hdT.tw1553361418407970481 : True := trivial
theorem hdT.tw5789553496708623366 : True := trivial
theorem hdT.tw16449164177963066224 : True := trivial
theorem hdT.tw2921489290202636354 : True := trivial
theorem hdT.tw10765721606339117948 : True := trivial
theorem hdT.tw11459261865374864192 : True := trivial
theorem hdT.tw2152687164418267720 : True := trivial
theorem hdT.tw13841167313592552955 : True := trivial
theorem hdT.tw18100569989897730878 : True := trivial
theorem hdT.tw5493415599788509693 : True := trivial
theorem hdT.tw18168334755178658163 : True := trivial
theorem hdT.tw15706192859081561822 : True := trivial
theorem hdT.tw13060595092114332330 : True := trivial
theorem hdT.tw16411160818834565329 : True := trivial
theorem hdT.tw13789881293592654387 : True := trivial
theorem hdT.tw5340122980169538509 : True := trivial
theorem hdT.tw8448208942434106986 : True := trivial
theorem hdT.tw1015662721845049221 : True := trivial
theorem hdT.tw6062054041289883069 : True := trivial
theorem hdT.tw1747257847226575806 : True := trivial
theorem hdT.tw2524514887380091968 : True := trivial
theorem hdT.tw11747024902356852549 : True := trivial
theorem hdT.tw2573676684247115121 : True := trivial
theorem hdT.tw2597303081884382771 : True := trivial
theorem hdT.tw8862904055507789325 : True := trivial
theorem hdT.tw3953179481644070144 : True := trivial
theorem hdT.tw15902368515024810717 : True := trivial
theorem hdT.tw18440575318786485203 : True := trivial
theorem hdT.tw10617901734912240002 : True := trivial
theorem hdT.tw12163744985405934773 : True := trivial
theorem hdT.tw2405699965061682348 : True := trivial
theorem hdT.tw11757530532557608132 : True := trivial
theorem hdT.tw16489284681867142615 : True := trivial
theorem hdT.tw7346947853037217097 : True := trivial
theorem hdT.tw15994309253796730768 : True := trivial
theorem hdT.tw10080614041577044238 : True := trivial
theorem hdT.tw16899397432000394928 : True := trivial
theorem hdT.tw6683267451252391723 : True := trivial
theorem hdT.tw1075420501288489189 : True := trivial
theorem hdT.tw2857486579997302598 : True := trivial
theorem hdT.tw12626607938501811000 : True := trivial
theorem hdT.tw14793636826967330735 : True := trivial
theorem hdT.tw16108318809565218085 : True := trivial
theorem hdT.tw12293168118825579695 : True := trivial
theorem hdT.tw1572057145254206533 : True := trivial
theorem hdT.tw3808180270531141879 : True := trivial
theorem hdT.tw12038241232971039084 : True := trivial
theorem hdT.tw4306714477624967827 : True := trivial
theorem hdT.tw1520117329010893095 : True := trivial
theorem hdT.tw9458655423726856729 : True := trivial
theorem hdT.tw12387774662352885974 : True := trivial
theorem hdT.tw18329903030470619778 : True := trivial
theorem hdT.tw3282193913366300933 : True := trivial
theorem hdT.tw2159627914686711884 : True := trivial
theorem hdT.tw11156275287357966263 : True := trivial
theorem hdT.tw17484115831290457604 : True := trivial
theorem hdT.tw103841106966163747 : True := trivial
theorem hdT.tw2222322585373364402 : True := trivial
theorem hdT.tw8641585120534172112 : True := trivial
theorem hdT.tw11400800689391800470 : True := trivial
theorem hdT.tw14358304341664772782 : True := trivial
theorem hdT.tw2027763147986355455 : True := trivial
theorem hdT.tw10249303264208934864 : True := trivial
theorem hdT.tw1759045066290804585 : True := trivial
theorem hdT.tw1769862425480128937 : True := trivial
theorem hdT.tw14680936511344029933 : True := trivial
theorem hdT.tw18130717086531243166 : True := trivial
theorem hdT.tw14928136798684704974 : True := trivial
theorem hdT.tw1001932927927829641 : True := trivial
theorem hdT.tw8092666306467823078 : True := trivial
theorem hdT.tw4473644792770490912 : True := trivial
theorem hdT.tw17154144827933080058 : True := trivial
theorem hdT.tw12078823273170598061 : True := trivial
theorem hdT.tw17437728792045454060 : True := trivial
theorem hdT.tw11805960059324406283 : True := trivial
theorem hdT.tw6425414900942841285 : True := trivial
theorem hdT.tw6136093587156985215 : True := trivial
theorem hdT.tw5260378216028650820 : True := trivial
theorem hdT.tw18310924211212023898 : True := trivial
theorem hdT.tw12848851418496564332 : True := trivial
theorem hdT.tw8050950827777398048 : True := trivial
theorem hdT.tw8933809840192862964 : True := trivial
theorem hdT.tw9534325647766667915 : True := trivial
theorem hdT.tw7324589716685445584 : True := trivial
theorem hdT.tw8750652063840231740 : True := trivial
theorem hdT.tw16689321103079575415 : True := trivial
theorem hdT.tw6381563940363135200 : True := trivial
theorem hdT.tw7217518033528309941 : True := trivial
theorem hdT.tw6599119529455057934 : True := trivial
theorem hdT.tw17035528155845151454 : True := trivial
theorem hdT.tw1923917731997800541 : True := trivial
theorem hdT.tw11541319093331784333 : True := trivial
theorem hdT.tw2539720526774857002 : True := trivial
theorem hdT.tw9571535370773033377 : True := trivial
theorem hdT.tw15986589184504527592 : True := trivial
theorem hdT.tw8072592181832140243 : True := trivial
theorem hdT.tw18157086518045136637 : True := trivial
theorem hdT.tw16987890369639669891 : True := trivial
theorem hdT.tw8567503031727373547 : True := trivial
theorem hdT.tw13845363747457403913 : True := trivial
theorem hdT.tw1580787227658663736 : True := trivial
theorem hdT.tw2500981849052796069 : True := trivial
theorem hdT.tw13508362850219849301 : True := trivial
theorem hdT.tw1432046594818976388 : True := trivial
theorem hdT.tw5151078855888670336 : True := trivial
theorem hdT.tw16549196318746827350 : True := trivial
theorem hdT.tw14596787741471266818 : True := trivial
theorem hdT.tw1016409337160901120 : True := trivial
theorem hdT.tw5074628755499229793 : True := trivial
theorem hdT.tw98075271140989712 : True := trivial
theorem hdT.tw11048436554777996028 : True := trivial
theorem hdT.tw123686674118195260 : True := trivial
theorem hdT.tw6670617395169278514 : True := trivial
theorem hdT.tw13786714389439647722 : True := trivial
theorem hdT.tw1843932490979021277 : True := trivial
theorem hdT.tw11018788065075084025 : True := trivial
theorem hdT.tw11687710423419705005 : True := trivial
theorem hdT.tw7873442354669621758 : True := trivial
theorem hdT.tw2099304469547774156 : True := trivial
theorem hdT.tw17684493538786419990 : True := trivial
theorem hdT.tw14384018857657548324 : True := trivial
theorem hdT.tw1959391839168329765 : True := trivial
theorem hdT.tw4680045992198469983 : True := trivial
theorem hdT.tw17804484615444265320 : True := trivial
theorem hdT.tw15760880736521519628 : True := trivial
theorem hdT.tw17873790006769355236 : True := trivial
theorem hdT.tw12513107966257316912 : True := trivial
theorem hdT.tw8943506571587402987 : True := trivial
theorem hdT.tw13645143491626055617 : True := trivial
theorem hdT.tw10202071882699297223 : True := trivial
theorem hdT.tw11714566110517299753 : True := trivial
theorem hdT.tw11921933945238363750 : True := trivial
theorem hdT.tw15503895281595511207 : True := trivial
theorem hdT.tw12942645491533211748 : True := trivial
theorem hdT.tw9068879478100896929 : True := trivial
theorem hdT.tw18402769245516950960 : True := trivial
theorem hdT.tw4180767909326071356 : True := trivial
theorem hdT.tw3937244442570227343 : True := trivial
theorem hdT.tw17212982446460151239 : True := trivial
theorem hdT.tw3163186264296576149 : True := trivial
theorem hdT.tw8173607700945315544 : True := trivial
theorem hdT.tw4799336707676368658 : True := trivial
theorem hdT.tw14689110479457818338 : True := trivial
theorem hdT.tw12257142217187598610 : True := trivial
theorem hdT.tw4805750459014103763 : True := trivial
theorem hdT.tw9747532853796621756 : True := trivial
theorem hdT.tw17370461868930270551 : True := trivial
theorem hdT.tw5929152466802282115 : True := trivial
theorem hdT.tw5691128966781905093 : True := trivial
theorem hdT.tw7410480008539292383 : True := trivial
theorem hdT.tw15585351579074516767 : True := trivial
theorem hdT.tw12153659471345884365 : True := trivial
theorem hdT.tw8503660711936515776 : True := trivial
theorem hdT.tw8287701665231782586 : True := trivial
theorem hdT.tw11487036344001518079 : True := trivial
theorem hdT.tw15788969025212839752 : True := trivial
theorem hdT.tw13367441443243330751 : True := trivial
theorem hdT.tw7378976414268029503 : True := trivial
theorem hdT.tw855168499411000503 : True := trivial
theorem hdT.tw14864999895250382057 : True := trivial
theorem hdT.tw5476256833781881076 : True := trivial
theorem hdT.tw1145438229332021567 : True := trivial
theorem hdT.tw16150095853827848020 : True := trivial
theorem hdT.tw816760262920538255 : True := trivial
theorem hdT.tw2783956855398936025 : True := trivial
theorem hdT.tw13102605487479191858 : True := trivial
theorem hdT.tw2578351281817413193 : True := trivial
theorem hdT.tw2888049423600391730 : True := trivial
theorem hdT.tw8425876010081677758 : True := trivial
theorem hdT.tw7399340436763251304 : True := trivial
theorem hdT.tw7361712229594404225 : True := trivial
theorem hdT.tw1176079322420180659 : True := trivial
theorem hdT.tw7370714080064044178 : True := trivial
theorem hdT.tw7942171668155527442 : True := trivial
theorem hdT.tw1749893124376738373 : True := trivial
theorem hdT.tw12079561201602305451 : True := trivial
theorem hdT.tw11755220345028815485 : True := trivial
theorem hdT.tw905587528695013960 : True := trivial
theorem hdT.tw6293537249065075018 : True := trivial
theorem hdT.tw13711046040431484001 : True := trivial
theorem hdT.tw5607320358360422370 : True := trivial
theorem hdT.tw3055067098921867479 : True := trivial
theorem hdT.tw2590165118902636919 : True := trivial
theorem hdT.tw4860882504843640059 : True := trivial
theorem hdT.tw5853876167621158507 : True := trivial
theorem hdT.tw1776274062459803214 : True := trivial
theorem hdT.tw12817492696408795699 : True := trivial
theorem hdT.tw14936380700840972334 : True := trivial
theorem hdT.tw7853958019229731579 : True := trivial
theorem hdT.tw11372798963237433469 : True := trivial
theorem hdT.tw16707821526901707475 : True := trivial
theorem hdT.tw2026564882714474611 : True := trivial
theorem hdT.tw13764317736034591790 : True := trivial
theorem hdT.tw5856148982977898499 : True := trivial
theorem hdT.tw11317579533362982705 : True := trivial
theorem hdT.tw12313064947553493437 : True := trivial
theorem hdT.tw614904304593535612 : True := trivial
theorem hdT.tw8845853409719386050 : True := trivial
theorem hdT.tw16679067981958320292 : True := trivial
theorem hdT.tw14682451217626634541 : True := trivial
theorem hdT.tw3847893416258255458 : True := trivial
theorem hdT.tw9311056039789755042 : True := trivial
theorem hdT.tw8852530127386481689 : True := trivial
theorem hdT.tw4870820990998705960 : True := trivial
theorem hdT.tw14390980076652992266 : True := trivial
theorem hdT.tw10475928700771966044 : True := trivial
theorem hdT.tw12669503823874496449 : True := trivial
theorem hdT.tw9699336115117729930 : True := trivial
theorem hdT.tw17157632114491426003 : True := trivial
theorem hdT.tw12986058576653620508 : True := trivial
theorem hdT.tw5205668749297161461 : True := trivial
theorem hdT.tw1830728938623689242 : True := trivial
theorem hdT.tw1469108666565013507 : True := trivial
theorem hdT.tw14529177570932698710 : True := trivial
theorem hdT.tw2806393524482611236 : True := trivial
theorem hdT.tw13195987100727223770 : True := trivial
theorem hdT.tw7383831400874300713 : True := trivial
theorem hdT.tw5165581774834855932 : True := trivial
theorem hdT.tw10319501003782391847 : True := trivial
theorem hdT.tw15649738087625292210 : True := trivial
theorem hdT.tw10067355104075643275 : True := trivial
theorem hdT.tw12896701216255168246 : True := trivial
theorem hdT.tw16395373911868539363 : True := trivial
theorem hdT.tw14544301321182030741 : True := trivial
theorem hdT.tw2897632379665089931 : True := trivial
theorem hdT.tw17982695594306778445 : True := trivial
theorem hdT.tw3362070074648511161 : True := trivial
theorem hdT.tw16623138619976506330 : True := trivial
theorem hdT.tw14081329003077593056 : True := trivial
theorem hdT.tw3015681194108742775 : True := trivial
theorem hdT.tw8116751731055428168 : True := trivial
theorem hdT.tw11542872704083187369 : True := trivial
theorem hdT.tw960050848766937271 : True := trivial
theorem hdT.tw13901490053756404744 : True := trivial
theorem hdT.tw15786061811284279205 : True := trivial
theorem hdT.tw13538150416244100956 : True := trivial
theorem hdT.tw4882206569832762009 : True := trivial
theorem hdT.tw17274611573127296362 : True := trivial
theorem hdT.tw6134002508673835281 : True := trivial
theorem hdT.tw15543842933211244073 : True := trivial
theorem hdT.tw4280171823406865558 : True := trivial
theorem hdT.tw5881322490639418404 : True := trivial
theorem hdT.tw2990842797605205848 : True := trivial
theorem hdT.tw10158975050279796663 : True := trivial
theorem hdT.tw8472439999578884724 : True := trivial
theorem hdT.tw8088496495341888229 : True := trivial
theorem hdT.tw11427050489749338305 : True := trivial
theorem hdT.tw10639811133456090113 : True := trivial
theorem hdT.tw14239289350908617314 : True := trivial
theorem hdT.tw12237224779577210347 : True := trivial
theorem hdT.tw1282731619024302628 : True := trivial
theorem hdT.tw8344245260858803287 : True := trivial
theorem hdT.tw8697609910814775846 : True := trivial
theorem hdT.tw13877802309104239163 : True := trivial
theorem hdT.tw4579577086566881272 : True := trivial
theorem hdT.tw4478334040652372635 : True := trivial
theorem hdT.tw3786290960044989686 : True := trivial
theorem hdT.tw3120113681926121877 : True := trivial
theorem hdT.tw1965936428634566924 : True := trivial
theorem hdT.tw9063316141770240257 : True := trivial
theorem hdT.tw10572733635573505725 : True := trivial
theorem hdT.tw10734346761020631068 : True := trivial
theorem hdT.tw6131459261266714361 : True := trivial
theorem hdT.tw2247844110553814248 : True := trivial
theorem hdT.tw6011456627351739823 : True := trivial
theorem hdT.tw12839877120325842763 : True := trivial
theorem hdT.tw8937378945868886277 : True := trivial
theorem hdT.tw10322692437255734812 : True := trivial
theorem hdT.tw3588971163530525636 : True := trivial
theorem hdT.tw15595976923621643440 : True := trivial
theorem hdT.tw1873386468875058060 : True := trivial
theorem hdT.tw1053057342741277391 : True := trivial
theorem hdT.tw13434923799626022156 : True := trivial
theorem hdT.tw2847899997164225806 : True := trivial
theorem hdT.tw2042762938286467980 : True := trivial
theorem hdT.tw15649314382953645090 : True := trivial
theorem hdT.tw15937438585856900970 : True := trivial
theorem hdT.tw8248988724413977058 : True := trivial
theorem hdT.tw4478279841756930620 : True := trivial
theorem hdT.tw11458501801640361781 : True := trivial
theorem hdT.tw11550254677324453141 : True := trivial
theorem hdT.tw10107192914230221782 : True := trivial
theorem hdT.tw17156949415198633774 : True := trivial
theorem hdT.tw10515750818216680289 : True := trivial
theorem hdT.tw12033344195343221276 : True := trivial
theorem hdT.tw18431168122545246677 : True := trivial
theorem hdT.tw355996382856560000 : True := trivial
theorem hdT.tw2951386002248001958 : True := trivial
theorem hdT.tw14738332839276273773 : True := trivial
theorem hdT.tw1994805565058289416 : True := trivial
theorem hdT.tw1378004814817118474 : True := trivial
theorem hdT.tw15604690081134836391 : True := trivial
theorem hdT.tw3691545737793461076 : True := trivial
theorem hdT.tw16651234390879853358 : True := trivial
theorem hdT.tw2956658484386022912 : True := trivial
theorem hdT.tw6958645189134850556 : True := trivial
theorem hdT.tw7201601642792764949 : True := trivial
theorem hdT.tw16531870463292877737 : True := trivial
theorem hdT.tw167985071357648463 : True := trivial
theorem hdT.tw2231793398430435732 : True := trivial
theorem hdT.tw12320029094706313238 : True := trivial
theorem hdT.tw6739956485725728979 : True := trivial
theorem hdT.tw2097802629581862470 : True := trivial
theorem hdT.tw7118430192128766453 : True := trivial
theorem hdT.tw5989770250344729309 : True := trivial
theorem hdT.tw9736829806540214903 : True := trivial
theorem hdT.tw6418923982407956075 : True := trivial
theorem hdT.tw14113409516418308985 : True := trivial
theorem hdT.tw12528596615628285788 : True := trivial
theorem hdT.tw7039955194728326051 : True := trivial
theorem hdT.tw15089131379500936453 : True := trivial
theorem hdT.tw11976874915213706559 : True := trivial
theorem hdT.tw7404225678548197383 : True := trivial
theorem hdT.tw2315787472201323137 : True := trivial
theorem hdT.tw8616971507025133447 : True := trivial
theorem hdT.tw10618657522404741396 : True := trivial
theorem hdT.tw10413290030777078302 : True := trivial
theorem hdT.tw17704734469149224921 : True := trivial
theorem hdT.tw2013409472790794623 : True := trivial
theorem hdT.tw6033919521562791155 : True := trivial
theorem hdT.tw14855939166130383842 : True := trivial
theorem hdT.tw14441849217696572001 : True := trivial
theorem hdT.tw17204517880365750426 : True := trivial
theorem hdT.tw4383407420157449125 : True := trivial
theorem hdT.tw2959161835317433322 : True := trivial
theorem hdT.tw16659000165413568518 : True := trivial
theorem hdT.tw13511928953172602288 : True := trivial
theorem hdT.tw476896764602719412 : True := trivial
theorem hdT.tw8698424893286483627 : True := trivial
theorem hdT.tw13667648759157132173 : True := trivial
theorem hdT.tw15373800813920376587 : True := trivial
theorem hdT.tw3794940417139765988 : True := trivial
theorem hdT.tw13298019607888386524 : True := trivial
theorem hdT.tw17460586045901743480 : True := trivial
theorem hdT.tw12214340855711000089 : True := trivial
theorem hdT.tw12217529378293269236 : True := trivial
theorem hdT.tw13271241176467474704 : True := trivial
theorem hdT.tw15478290568897951882 : True := trivial
theorem hdT.tw13952589186035531799 : True := trivial
theorem hdT.tw2346434553980085496 : True := trivial
theorem hdT.tw17615970304678335875 : True := trivial
theorem hdT.tw3569573548083652402 : True := trivial
theorem hdT.tw4420862922631421675 : True := trivial
theorem hdT.tw18227977749983114446 : True := trivial
theorem hdT.tw11725341453786465626 : True := trivial
theorem hdT.tw6126834691248478450 : True := trivial
theorem hdT.tw15617995345080321057 : True := trivial
theorem hdT.tw16619460248487745004 : True := trivial
theorem hdT.tw10775545438231040131 : True := trivial
theorem hdT.tw7357894038608555523 : True := trivial
theorem hdT.tw776734900397645373 : True := trivial
theorem hdT.tw15245239720828614882 : True := trivial
theorem hdT.tw8398449434462076664 : True := trivial
theorem hdT.tw7663180509135097439 : True := trivial
theorem hdT.tw13745481164612088859 : True := trivial
theorem hdT.tw17840979056596484806 : True := trivial
theorem hdT.tw14135771155940000022 : True := trivial
theorem hdT.tw14560644946258142183 : True := trivial
theorem hdT.tw8046985584504496282 : True := trivial
theorem hdT.tw1268191746442894382 : True := trivial
theorem hdT.tw18425225725321503756 : True := trivial
theorem hdT.tw7760847729004739588 : True := trivial
theorem hdT.tw8873467754133050205 : True := trivial
theorem hdT.tw8059042711464421741 : True := trivial
theorem hdT.tw11417774720625015196 : True := trivial
theorem hdT.tw7475871208913492162 : True := trivial
theorem hdT.tw9257927824111913287 : True := trivial
theorem hdT.tw17155855487621836709 : True := trivial
theorem hdT.tw11438849694878761156 : True := trivial
theorem hdT.tw4306564808082017633 : True := trivial
theorem hdT.tw12301605705503117334 : True := trivial
theorem hdT.tw8054727372441204377 : True := trivial
theorem hdT.tw16911082514686179566 : True := trivial
theorem hdT.tw3437907633828208000 : True := trivial
theorem hdT.tw2391073300771724814 : True := trivial
theorem hdT.tw8049430661905582836 : True := trivial
theorem hdT.tw3661936358686036136 : True := trivial
theorem hdT.tw7407133789760533946 : True := trivial
theorem hdT.tw17456490922900562567 : True := trivial
theorem hdT.tw15010457189144340986 : True := trivial
theorem hdT.tw7686422701275456138 : True := trivial
theorem hdT.tw11624307389960985358 : True := trivial
theorem hdT.tw2047077231110316048 : True := trivial
theorem hdT.tw11199705531422776145 : True := trivial
theorem hdT.tw6412721170132791065 : True := trivial
theorem hdT.tw8001199741054128350 : True := trivial
theorem hdT.tw4276992846007295418 : True := trivial
theorem hdT.tw10865885875968670224 : True := trivial
theorem hdT.tw3232902566179762624 : True := trivial
theorem hdT.tw1363381414463380569 : True := trivial
theorem hdT.tw12965636546680305311 : True := trivial
theorem hdT.tw13075672575759723129 : True := trivial
theorem hdT.tw7949111435810904832 : True := trivial
theorem hdT.tw8065493402013126719 : True := trivial
theorem hdT.tw1892497086594246384 : True := trivial
theorem hdT.tw904818085771164807 : True := trivial
theorem hdT.tw12693335245358512814 : True := trivial
theorem hdT.tw3148966950799367373 : True := trivial
theorem hdT.tw2317740693662035978 : True := trivial
theorem hdT.tw2452211869294023338 : True := trivial
theorem hdT.tw6324740212330344277 : True := trivial
theorem hdT.tw2141031780377652736 : True := trivial
theorem hdT.tw16626288849920792520 : True := trivial
theorem hdT.tw10247054860911567197 : True := trivial
theorem hdT.tw14156971944580773197 : True := trivial
theorem hdT.tw3523916434977887104 : True := trivial
theorem hdT.tw3048625272048801309 : True := trivial
theorem hdT.tw10988130239496037820 : True := trivial
theorem hdT.tw4284608214837042114 : True := trivial
theorem hdT.tw378083904730610894 : True := trivial
theorem hdT.tw11680981566860643967 : True := trivial
theorem hdT.tw9605049027884111519 : True := trivial
theorem hdT.tw13204161976637456802 : True := trivial
theorem hdT.tw14243037624748947413 : True := trivial
theorem hdT.tw2110733675783530212 : True := trivial
theorem hdT.tw6454614446495489824 : True := trivial
theorem hdT.tw13572087799763237570 : True := trivial
theorem hdT.tw13279870413759428154 : True := trivial
theorem hdT.tw12616172019080302470 : True := trivial
theorem hdT.tw3750821004556546318 : True := trivial
theorem hdT.tw5144897212246035213 : True := trivial
theorem hdT.tw2625485059379306636 : True := trivial
theorem hdT.tw1566920424647158498 : True := trivial
theorem hdT.tw8027916372720486466 : True := trivial
theorem hdT.tw7855729953441644567 : True := trivial
theorem hdT.tw11636107060374798686 : True := trivial
theorem hdT.tw15139554571385455295 : True := trivial
theorem hdT.tw10010845322139352627 : True := trivial
theorem hdT.tw3470672704688877459 : True := trivial
theorem hdT.tw15729114282328834007 : True := trivial
theorem hdT.tw12476784377090588212 : True := trivial
theorem hdT.tw4826709780904878789 : True := trivial
theorem hdT.tw4637192288282360748 : True := trivial
theorem hdT.tw17644019301889704414 : True := trivial
theorem hdT.tw4192780611513727526 : True := trivial
theorem hdT.tw12604221089893923323 : True := trivial
theorem hdT.tw14020171688309530123 : True := trivial
theorem hdT.tw10036917896950967397 : True := trivial
theorem hdT.tw7266376299009869524 : True := trivial
theorem hdT.tw9761581780216786772 : True := trivial
theorem hdT.tw3146396220367132296 : True := trivial
theorem hdT.tw1604004307016998346 : True := trivial
theorem hdT.tw10711610238166011483 : True := trivial
theorem hdT.tw10868594059437301352 : True := trivial
theorem hdT.tw15338273020528510402 : True := trivial
theorem hdT.tw15260663562296954404 : True := trivial
theorem hdT.tw8058740734964580546 : True := trivial
theorem hdT.tw14374489479828959890 : True := trivial
theorem hdT.tw6690937501477351658 : True := trivial
theorem hdT.tw185286079852928538 : True := trivial
theorem hdT.tw13281160262870861691 : True := trivial
theorem hdT.tw4105787885487224124 : True := trivial
theorem hdT.tw15670875253111351066 : True := trivial
theorem hdT.tw9990210928843065123 : True := trivial
theorem hdT.tw8359666261047867452 : True := trivial
theorem hdT.tw10173080693487543003 : True := trivial
theorem hdT.tw15975467772437593770 : True := trivial
theorem hdT.tw4117183145614516387 : True := trivial
theorem hdT.tw10194237121763327897 : True := trivial
theorem hdT.tw9294019548499875384 : True := trivial
theorem hdT.tw12351822775331109856 : True := trivial
theorem hdT.tw13102114777984284480 : True := trivial
theorem hdT.tw14697747961488160826 : True := trivial
theorem hdT.tw14339686620797904987 : True := trivial
theorem hdT.tw3837135630182166146 : True := trivial
theorem hdT.tw7634598030205468963 : True := trivial
theorem hdT.tw10278784268148742078 : True := trivial
theorem hdT.tw2421974210947943896 : True := trivial
theorem hdT.tw13139216254927382609 : True := trivial
theorem hdT.tw8420545781065954363 : True := trivial
theorem hdT.tw2948353722112939280 : True := trivial
theorem hdT.tw102660449159839505 : True := trivial
theorem hdT.tw7378758851455175208 : True := trivial
theorem hdT.tw3964741812652841094 : True := trivial
theorem hdT.tw4042970992223234270 : True := trivial
theorem hdT.tw2520595883203713878 : True := trivial
theorem hdT.tw13185223269041771558 : True := trivial
theorem hdT.tw5163333308569226706 : True := trivial
theorem hdT.tw6089881760442619883 : True := trivial
theorem hdT.tw10281885422764332917 : True := trivial
theorem hdT.tw8873163827778126504 : True := trivial
theorem hdT.tw12106956960737714382 : True := trivial
theorem hdT.tw3114665982151778685 : True := trivial
theorem hdT.tw8296667696301474193 : True := trivial
theorem hdT.tw8317748790123228767 : True := trivial
theorem hdT.tw11673848817800129705 : True := trivial
theorem hdT.tw9044453912763272853 : True := trivial
theorem hdT.tw2420845466144198696 : True := trivial
theorem hdT.tw6909686524076739110 : True := trivial
theorem hdT.tw9429051258219011899 : True := trivial
theorem hdT.tw11679227984046665637 : True := trivial
theorem hdT.tw16177888989005199918 : True := trivial
theorem hdT.tw1327509301673333715 : True := trivial
theorem hdT.tw16364119444717739325 : True := trivial
theorem hdT.tw17732004547103332221 : True := trivial
theorem hdT.tw15573197441692842753 : True := trivial
theorem hdT.tw12953295867854242429 : True := trivial
theorem hdT.tw16725842125655001164 : True := trivial
theorem hdT.tw1760258660891434357 : True := trivial
theorem hdT.tw14145074365520202611 : True := trivial
theorem hdT.tw16808101064571166239 : True := trivial
theorem hdT.tw12634102005968315378 : True := trivial
theorem hdT.tw15503024994843384373 : True := trivial
theorem hdT.tw5055731070195491554 : True := trivial
theorem hdT.tw9007937751257014164 : True := trivial
theorem hdT.tw13218149750968122468 : True := trivial
theorem hdT.tw18142978766235501769 : True := trivial
theorem hdT.tw2264310253170993280 : True := trivial
theorem hdT.tw17110205108780911252 : True := trivial
theorem hdT.tw18241957777257879750 : True := trivial
theorem hdT.tw11756544793221312900 : True := trivial
theorem hdT.tw542248526100295013 : True := trivial
theorem hdT.tw6150976936601723337 : True := trivial
theorem hdT.tw15941966535906006232 : True := trivial
theorem hdT.tw5755368545809505600 : True := trivial
theorem hdT.tw1422925138140981434 : True := trivial
theorem hdT.tw10937101298365751459 : True := trivial
theorem hdT.tw9054821845631497969 : True := trivial
theorem hdT.tw9988109110853653462 : True := trivial
theorem hdT.tw2187532262907252767 : True := trivial
theorem hdT.tw1559350885289867682 : True := trivial
theorem hdT.tw18243017937811348529 : True := trivial
theorem hdT.tw1743478796703445569 : True := trivial
theorem hdT.tw14043705154278696030 : True := trivial
theorem hdT.tw2657588340156428226 : True := trivial
theorem hdT.tw7977824130624017432 : True := trivial
theorem hdT.tw11199747433638473075 : True := trivial
theorem hdT.tw1041002507800964818 : True := trivial
theorem hdT.tw4527832340654653562 : True := trivial
theorem hdT.tw11131275715287355575 : True := trivial
theorem hdT.tw15419372733056382389 : True := trivial
theorem hdT.tw5100337038175710370 : True := trivial
theorem hdT.tw18238355898598786330 : True := trivial
theorem hdT.tw14184987369404498229 : True := trivial
theorem hdT.tw13329559452079177445 : True := trivial
theorem hdT.tw8346696010151329043 : True := trivial
theorem hdT.tw17281509130118850763 : True := trivial
theorem hdT.tw12194875641299781416 : True := trivial
theorem hdT.tw6987257369885776379 : True := trivial
theorem hdT.tw4895140127428138000 : True := trivial
theorem hdT.tw12563112198918280810 : True := trivial
theorem hdT.tw9983460089433338982 : True := trivial
theorem hdT.tw12643286276921385653 : True := trivial
theorem hdT.tw308856326611634325 : True := trivial
theorem hdT.tw6500145776929650466 : True := trivial
theorem hdT.tw11613489809167172214 : True := trivial
theorem hdT.tw18138672634151941913 : True := trivial
theorem hdT.tw18190383041204214644 : True := trivial
theorem hdT.tw4901701916038814030 : True := trivial
theorem hdT.tw14832296044313233530 : True := trivial
theorem hdT.tw6889086249523499052 : True := trivial
theorem hdT.tw15609716034131776777 : True := trivial
theorem hdT.tw11217382035824116924 : True := trivial
theorem hdT.tw11759856159870746441 : True := trivial
theorem hdT.tw12530120557820931060 : True := trivial
theorem hdT.tw15874489536405178614 : True := trivial
theorem hdT.tw8639440022213153879 : True := trivial
theorem hdT.tw1070174678322985114 : True := trivial
theorem hdT.tw551490835370666823 : True := trivial
theorem hdT.tw7963365950823558655 : True := trivial
theorem hdT.tw279229455494635177 : True := trivial
open PySem PySem.W PySem.Calls PyProof.Rows
set_option Elab.async true in
set_option maxRecDepth 100000 in
set_option maxHeartbeats 8000000 in
theorem hdT : PySem.Challenge.rw_sj0061_01.Holds := by
  w_on
  o_law
  k_head
  (case hw => w_witness2)
  k_fill
  intro w s₀ s₁ mg mb G Y fa o pm cd doc dV kV ho hd hcd hD hmg hg args vals as hpre hlay hrd hwl hlo
  have KX := km_in_of Y
  km_tabs Y
  have X := (Ground.X G).1
  have V := (Ground.X G).2
  refine Ground.open G ?_
  intro T B D TE TW
  try (refine guard_noD D (by decide +kernel) ?_; clear D)
  km_lay T hmg ho hd cd
  have e0 := hmg.symm.trans (show mg _ = some (Value.ref 740) from mg_of KX T.g (by kernel_rfl))
  cases e0
  clear hmg hd hcd ho
  wrow_args hpre hlay hrd hwl hlo
  refine enter_call ?_
  refine kn_post hT9 (fun _ _ => rfl) ?_
  have hW := ‹Well _ _ _ _›
  have hL := ‹Heap.IsList _ _ _›
  have hI := ‹IntsAre _ _›
  have hlen := ‹¬ _ < _›
  have hob := well_list hW hL ⟨_, rfl⟩
  have GD := gd_of' (prog := PySem.Challenge.rw_sj0061_01.row.prog) (w := w) KX T hT9 hob rfl (by kernel_rfl) (by decide +kernel) (by kernel_rfl) (by kernel_rfl) [686, 685, 683] (by kernel_rfl)
    ⟨by kernel_rfl, by kernel_rfl, by kernel_rfl, by kernel_rfl, by kernel_rfl, by kernel_rfl, by kernel_rfl, by kernel_rfl, of_map (g := fun _ => some none) (by kernel_rfl)⟩
  have EG := exc_of (prog := PySem.Challenge.rw_sj0061_01.row.prog) (w := w) KX hT9 hob rfl [45, 44, 32, 31, 29, 28, 22] (by kernel_rfl)
    ⟨⟨by kernel_rfl, by kernel_rfl, by kernel_rfl, by kernel_rfl, by kernel_rfl, by kernel_rfl, by kernel_rfl, of_map (g := fun _ => some none) (by kernel_rfl)⟩, fun S a b c d => by kernel_rfl⟩ (by kernel_rfl) (by kernel_rfl)
  have ht := (hT9 (734, 730) List.mem_cons_self).2
  have hne : (730 : Addr) ≠ _ := fun q => by rw [q, hob] at ht; cases ht
  refine law_code GD (try_ok EG) ⟨_, _⟩ ⟨_, rfl, by simpa using hI, ?_⟩ (sims0 (P := { prog := _, w := w, h0 := hideAll s₁.heap [730, _], ktab := 730 }) (fun b o e => of_hideAll _ e) (hideAll_none _ (by simp)) (hideAll_none _ (by simp)) hne ht hob) rfl _ fun h' tk hps ha hk => ?_
  · rw [List.size_toArray, intsAre_len hI]; omega
  · refine ⟨⟨.inl ⟨_, .bool true, [], rfl, fun _ => rfl, .bool true, by kernel_rfl, fun _ => ⟨List.nodup_nil, fun _ h => nomatch h⟩⟩, fin_base hob ha hk, rfl, hg⟩, hps, trivial⟩
end Mine
end
theorem PySem.Challenge.cw_sj0061_01_holds : PySem.Challenge.rw_sj0061_01.Holds := by
  exact Mine.hdT
